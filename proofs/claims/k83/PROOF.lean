import PyProof.Rows.All
import Wide.All
import OpenK.AllK
import Wide.FinOn
import HandS.ForMost
import HandS.Zip
import HandS.NoneIn
import HandS.IsInst
import HandS.TupAny
import HandS.Defaults
import HandS.More
import HandS.ClsMeth
import HandS.Conv
import HandS.DictComp
import HandS.WideBits
import HandS.SortInts
import HandS.Set
import HandS.SetFor
import HandS.Head0
import HandS.Head1
import HandS.Head2
import HandS.HeadEnd
import HandS.HeadHook1
import HandS.HeadHook2
import PySem.Challenge.RW_shortgoings_k83_whole_lines_meant
set_option Elab.async false
set_option linter.all false
set_option maxRecDepth 100000
set_option maxHeartbeats 4000000
namespace Tr
open PySem PySem.Spec L2
def top (i : Nat) : Stmt := PySem.Challenge.pw_shortgoings_k83_whole_lines_meant.main.body.getD i (.Pass ⟨0, 0, 0, 0⟩)
def clsBody : Stmt → List Stmt
  | .ClassDef _ _ _ b _ _ _ _ _ _ _ => b
  | _ => []
def meth (i j : Nat) : Stmt := (clsBody (top i)).getD j (.Pass ⟨0, 0, 0, 0⟩)

abbrev s_is_whole : Stmt := top 19
abbrev N_is_whole : List Str := ["thing"]
def d_is_whole : He.DefD := ⟨("is_whole", none), "is_whole", "is_whole", defArgs s_is_whole, defBody s_is_whole, defScope s_is_whole, [], []⟩
abbrev s_is_moment : Stmt := top 20
abbrev N_is_moment : List Str := ["thing"]
def d_is_moment : He.DefD := ⟨("is_moment", none), "is_moment", "is_moment", defArgs s_is_moment, defBody s_is_moment, defScope s_is_moment, [], []⟩
abbrev s_want_moment : Stmt := top 21
abbrev N_want_moment : List Str := ["thing"]
def d_want_moment : He.DefD := ⟨("want_moment", none), "want_moment", "want_moment", defArgs s_want_moment, defBody s_want_moment, defScope s_want_moment, [], []⟩
abbrev s_want_day : Stmt := top 28
abbrev N_want_day : List Str := ["thing"]
def d_want_day : He.DefD := ⟨("want_day", none), "want_day", "want_day", defArgs s_want_day, defBody s_want_day, defScope s_want_day, [], []⟩
abbrev s_are_signs : Stmt := top 29
abbrev N_are_signs : List Str := ["thing", "sign"]
def d_are_signs : He.DefD := ⟨("are_signs", none), "are_signs", "are_signs", defArgs s_are_signs, defBody s_are_signs, defScope s_are_signs, [], []⟩
abbrev s_Ring_init : Stmt := meth 30 0
abbrev N_Ring_init : List Str := ["self", "text"]
def d_Ring_init : He.DefD := ⟨("Ring", some "__init__"), "__init__", "Ring.__init__", defArgs s_Ring_init, defBody s_Ring_init, defScope s_Ring_init, [], []⟩
abbrev s_Ring_rings : Stmt := meth 30 5
abbrev N_Ring_rings : List Str := ["self", "day"]
def d_Ring_rings : He.DefD := ⟨("Ring", some "rings"), "rings", "Ring.rings", defArgs s_Ring_rings, defBody s_Ring_rings, defScope s_Ring_rings, [], []⟩
abbrev s_told_days : Stmt := top 37
abbrev N_told_days : List Str := ["thing", "day", "found", "one", "other"]
def d_told_days : He.DefD := ⟨("told_days", none), "told_days", "told_days", defArgs s_told_days, defBody s_told_days, defScope s_told_days, [], []⟩
abbrev s_want_till : Stmt := top 38
abbrev N_want_till : List Str := ["since", "till"]
def d_want_till : He.DefD := ⟨("want_till", none), "want_till", "want_till", defArgs s_want_till, defBody s_want_till, defScope s_want_till, [], []⟩
abbrev s_Days_init : Stmt := meth 39 0
abbrev N_Days_init : List Str := ["self", "ring", "since", "till", "out", "also", "day"]
def d_Days_init : He.DefD := ⟨("Days", some "__init__"), "__init__", "Days.__init__", defArgs s_Days_init, defBody s_Days_init, defScope s_Days_init, [.int 0, .non, .non, .non], []⟩
abbrev s_Days_has : Stmt := meth 39 4
abbrev N_Days_has : List Str := ["self", "day"]
def d_Days_has : He.DefD := ⟨("Days", some "has"), "has", "Days.has", defArgs s_Days_has, defBody s_Days_has, defScope s_Days_has, [], []⟩
abbrev s_is_name : Stmt := top 48
abbrev N_is_name : List Str := ["thing", "sign"]
def d_is_name : He.DefD := ⟨("is_name", none), "is_name", "is_name", defArgs s_is_name, defBody s_is_name, defScope s_is_name, [], []⟩
abbrev s_notes_of : Stmt := top 49
abbrev N_notes_of : List Str := ["notes", "note"]
def d_notes_of : He.DefD := ⟨("notes_of", none), "notes_of", "notes_of", defArgs s_notes_of, defBody s_notes_of, defScope s_notes_of, [], []⟩
abbrev s_notes_together : Stmt := top 50
abbrev N_notes_together : List Str := ["one", "other"]
def d_notes_together : He.DefD := ⟨("notes_together", none), "notes_together", "notes_together", defArgs s_notes_together, defBody s_notes_together, defScope s_notes_together, [], []⟩
abbrev s_Going_init : Stmt := meth 51 0
abbrev N_Going_init : List Str := ["self", "moment", "notes"]
def d_Going_init : He.DefD := ⟨("Going", some "__init__"), "__init__", "Going.__init__", defArgs s_Going_init, defBody s_Going_init, defScope s_Going_init, [.non], []⟩
abbrev s_is_number : Stmt := top 55
abbrev N_is_number : List Str := ["thing", "least"]
def d_is_number : He.DefD := ⟨("is_number", none), "is_number", "is_number", defArgs s_is_number, defBody s_is_number, defScope s_is_number, [], []⟩
abbrev s_all_rising : Stmt := top 57
abbrev N_all_rising : List Str := ["parts", "one", "other"]
def d_all_rising : He.DefD := ⟨("all_rising", none), "all_rising", "all_rising", defArgs s_all_rising, defBody s_all_rising, defScope s_all_rising, [], []⟩
abbrev s_shorts_in : Stmt := top 58
abbrev N_shorts_in : List Str := ["parts", "found", "one"]
def d_shorts_in : He.DefD := ⟨("shorts_in", none), "shorts_in", "shorts_in", defArgs s_shorts_in, defBody s_shorts_in, defScope s_shorts_in, [], []⟩
abbrev s_row_moments : Stmt := top 59
abbrev N_row_moments : List Str := ["parts", "found", "one"]
def d_row_moments : He.DefD := ⟨("row_moments", none), "row_moments", "row_moments", defArgs s_row_moments, defBody s_row_moments, defScope s_row_moments, [], []⟩
abbrev s_row_many : Stmt := top 60
abbrev N_row_many : List Str := ["parts", "one"]
def d_row_many : He.DefD := ⟨("row_many", none), "row_many", "row_many", defArgs s_row_many, defBody s_row_many, defScope s_row_many, [], []⟩
abbrev s_At_init : Stmt := meth 62 0
abbrev N_At_init : List Str := ["self", "moment"]
def d_At_init : He.DefD := ⟨("At", some "__init__"), "__init__", "At.__init__", defArgs s_At_init, defBody s_At_init, defScope s_At_init, [], []⟩
abbrev s_At_moments : Stmt := meth 62 1
abbrev N_At_moments : List Str := ["self"]
def d_At_moments : He.DefD := ⟨("At", some "moments"), "moments", "At.moments", defArgs s_At_moments, defBody s_At_moments, defScope s_At_moments, [], []⟩
abbrev s_At_begins : Stmt := meth 62 3
abbrev N_At_begins : List Str := ["self"]
def d_At_begins : He.DefD := ⟨("At", some "begins"), "begins", "At.begins", defArgs s_At_begins, defBody s_At_begins, defScope s_At_begins, [], []⟩
abbrev s_At_ends : Stmt := meth 62 4
abbrev N_At_ends : List Str := ["self"]
def d_At_ends : He.DefD := ⟨("At", some "ends"), "ends", "At.ends", defArgs s_At_ends, defBody s_At_ends, defScope s_At_ends, [], []⟩
abbrev s_At_means_many : Stmt := meth 62 5
abbrev N_At_means_many : List Str := ["self"]
def d_At_means_many : He.DefD := ⟨("At", some "means_many"), "means_many", "At.means_many", defArgs s_At_means_many, defBody s_At_means_many, defScope s_At_means_many, [], []⟩
abbrev s_Spread_init : Stmt := meth 64 0
abbrev N_Spread_init : List Str := ["self", "parts"]
def d_Spread_init : He.DefD := ⟨("Spread", some "__init__"), "__init__", "Spread.__init__", defArgs s_Spread_init, defBody s_Spread_init, defScope s_Spread_init, [], []⟩
abbrev s_Spread_moments : Stmt := meth 64 2
abbrev N_Spread_moments : List Str := ["self"]
def d_Spread_moments : He.DefD := ⟨("Spread", some "moments"), "moments", "Spread.moments", defArgs s_Spread_moments, defBody s_Spread_moments, defScope s_Spread_moments, [], []⟩
abbrev s_want : Stmt := top 68
abbrev N_want : List Str := ["truth", "words"]
def d_want : He.DefD := ⟨("want", none), "want", "want", defArgs s_want, defBody s_want, defScope s_want, [], []⟩
abbrev s_Card_init : Stmt := meth 69 0
abbrev N_Card_init : List Str := ["self", "held", "one"]
def d_Card_init : He.DefD := ⟨("Card", some "__init__"), "__init__", "Card.__init__", defArgs s_Card_init, defBody s_Card_init, defScope s_Card_init, [], []⟩
abbrev s_Card_inner : Stmt := meth 69 1
abbrev N_Card_inner : List Str := ["self"]
def d_Card_inner : He.DefD := ⟨("Card", some "inner"), "inner", "Card.inner", defArgs s_Card_inner, defBody s_Card_inner, defScope s_Card_inner, [], []⟩
abbrev s_Card_size : Stmt := meth 69 2
abbrev N_Card_size : List Str := ["self"]
def d_Card_size : He.DefD := ⟨("Card", some "size"), "size", "Card.size", defArgs s_Card_size, defBody s_Card_size, defScope s_Card_size, [], []⟩
abbrev s_Once_init : Stmt := meth 70 0
abbrev N_Once_init : List Str := ["self", "spread", "notes", "moment"]
def d_Once_init : He.DefD := ⟨("Once", some "__init__"), "__init__", "Once.__init__", defArgs s_Once_init, defBody s_Once_init, defScope s_Once_init, [.non], []⟩
abbrev s_Once_notes_at : Stmt := meth 70 1
abbrev N_Once_notes_at : List Str := ["self", "moment"]
def d_Once_notes_at : He.DefD := ⟨("Once", some "notes_at"), "notes_at", "Once.notes_at", defArgs s_Once_notes_at, defBody s_Once_notes_at, defScope s_Once_notes_at, [], []⟩
abbrev s_Every_init : Stmt := meth 71 0
abbrev N_Every_init : List Str := ["self", "days", "spread", "notes", "moment", "minute"]
def d_Every_init : He.DefD := ⟨("Every", some "__init__"), "__init__", "Every.__init__", defArgs s_Every_init, defBody s_Every_init, defScope s_Every_init, [.non], []⟩
abbrev s_Every_notes_at : Stmt := meth 71 1
abbrev N_Every_notes_at : List Str := ["self", "moment", "day", "minute"]
def d_Every_notes_at : He.DefD := ⟨("Every", some "notes_at"), "notes_at", "Every.notes_at", defArgs s_Every_notes_at, defBody s_Every_notes_at, defScope s_Every_notes_at, [], []⟩
abbrev s_Join_init : Stmt := meth 72 0
abbrev N_Join_init : List Str := ["self", "parts"]
def d_Join_init : He.DefD := ⟨("Join", some "__init__"), "__init__", "Join.__init__", defArgs s_Join_init, defBody s_Join_init, defScope s_Join_init, [], []⟩
abbrev s_Join_notes_at : Stmt := meth 72 1
abbrev N_Join_notes_at : List Str := ["self", "moment", "found", "one", "notes"]
def d_Join_notes_at : He.DefD := ⟨("Join", some "notes_at"), "notes_at", "Join.notes_at", defArgs s_Join_notes_at, defBody s_Join_notes_at, defScope s_Join_notes_at, [], []⟩
abbrev s_Less_init : Stmt := meth 73 0
abbrev N_Less_init : List Str := ["self", "one", "other"]
def d_Less_init : He.DefD := ⟨("Less", some "__init__"), "__init__", "Less.__init__", defArgs s_Less_init, defBody s_Less_init, defScope s_Less_init, [], []⟩
abbrev s_Less_notes_at : Stmt := meth 73 1
abbrev N_Less_notes_at : List Str := ["self", "moment", "one", "other"]
def d_Less_notes_at : He.DefD := ⟨("Less", some "notes_at"), "notes_at", "Less.notes_at", defArgs s_Less_notes_at, defBody s_Less_notes_at, defScope s_Less_notes_at, [], []⟩
abbrev s_Swap_init : Stmt := meth 74 0
abbrev N_Swap_init : List Str := ["self", "one", "days", "other"]
def d_Swap_init : He.DefD := ⟨("Swap", some "__init__"), "__init__", "Swap.__init__", defArgs s_Swap_init, defBody s_Swap_init, defScope s_Swap_init, [], []⟩
abbrev s_Swap_notes_at : Stmt := meth 74 1
abbrev N_Swap_notes_at : List Str := ["self", "moment"]
def d_Swap_notes_at : He.DefD := ⟨("Swap", some "notes_at"), "notes_at", "Swap.notes_at", defArgs s_Swap_notes_at, defBody s_Swap_notes_at, defScope s_Swap_notes_at, [], []⟩
abbrev s_Later_init : Stmt := meth 75 0
abbrev N_Later_init : List Str := ["self", "one", "minutes"]
def d_Later_init : He.DefD := ⟨("Later", some "__init__"), "__init__", "Later.__init__", defArgs s_Later_init, defBody s_Later_init, defScope s_Later_init, [.int 60], []⟩
abbrev s_Later_notes_at : Stmt := meth 75 1
abbrev N_Later_notes_at : List Str := ["self", "moment"]
def d_Later_notes_at : He.DefD := ⟨("Later", some "notes_at"), "notes_at", "Later.notes_at", defArgs s_Later_notes_at, defBody s_Later_notes_at, defScope s_Later_notes_at, [], []⟩
abbrev s_Noted_init : Stmt := meth 76 0
abbrev N_Noted_init : List Str := ["self", "one", "note"]
def d_Noted_init : He.DefD := ⟨("Noted", some "__init__"), "__init__", "Noted.__init__", defArgs s_Noted_init, defBody s_Noted_init, defScope s_Noted_init, [], []⟩
abbrev s_Noted_notes_at : Stmt := meth 76 1
abbrev N_Noted_notes_at : List Str := ["self", "moment", "notes"]
def d_Noted_notes_at : He.DefD := ⟨("Noted", some "notes_at"), "notes_at", "Noted.notes_at", defArgs s_Noted_notes_at, defBody s_Noted_notes_at, defScope s_Noted_notes_at, [], []⟩
abbrev s_As_init : Stmt := meth 77 0
abbrev N_As_init : List Str := ["self", "name"]
def d_As_init : He.DefD := ⟨("As", some "__init__"), "__init__", "As.__init__", defArgs s_As_init, defBody s_As_init, defScope s_As_init, [], []⟩
abbrev s_first_as : Stmt := top 78
abbrev N_first_as : List Str := ["card", "one", "name"]
def d_first_as : He.DefD := ⟨("first_as", none), "first_as", "first_as", defArgs s_first_as, defBody s_first_as, defScope s_first_as, [], []⟩
abbrev s_want_card : Stmt := top 79
abbrev N_want_card : List Str := ["card"]
def d_want_card : He.DefD := ⟨("want_card", none), "want_card", "want_card", defArgs s_want_card, defBody s_want_card, defScope s_want_card, [], []⟩
abbrev s_want_known : Stmt := top 80
abbrev N_want_known : List Str := ["card", "name"]
def d_want_known : He.DefD := ⟨("want_known", none), "want_known", "want_known", defArgs s_want_known, defBody s_want_known, defScope s_want_known, [], []⟩
abbrev s_going_at : Stmt := top 81
abbrev N_going_at : List Str := ["card", "moment", "notes"]
def d_going_at : He.DefD := ⟨("going_at", none), "going_at", "going_at", defArgs s_going_at, defBody s_going_at, defScope s_going_at, [], []⟩
abbrev s_changed_card : Stmt := top 84
abbrev N_changed_card : List Str := ["card", "changed", "lots", "moment", "notes", "rest"]
def d_changed_card : He.DefD := ⟨("changed_card", none), "changed_card", "changed_card", defArgs s_changed_card, defBody s_changed_card, defScope s_changed_card, [], []⟩
abbrev s_names_in : Stmt := top 86
abbrev N_names_in : List Str := ["card", "found", "one"]
def d_names_in : He.DefD := ⟨("names_in", none), "names_in", "names_in", defArgs s_names_in, defBody s_names_in, defScope s_names_in, [], []⟩
abbrev s_chain_round : Stmt := top 88
abbrev N_chain_round : List Str := ["lines", "name", "came", "row", "at", "there"]
def d_chain_round : He.DefD := ⟨("chain_round", none), "chain_round", "chain_round", defArgs s_chain_round, defBody s_chain_round, defScope s_chain_round, [], []⟩
abbrev s_count_card : Stmt := top 89
abbrev N_count_card : List Str := ["lines", "card", "found", "one"]
def d_count_card : He.DefD := ⟨("count_card", none), "count_card", "count_card", defArgs s_count_card, defBody s_count_card, defScope s_count_card, [], []⟩
abbrev s_most_meant : Stmt := top 90
abbrev N_most_meant : List Str := ["lines", "found", "name"]
def d_most_meant : He.DefD := ⟨("most_meant", none), "most_meant", "most_meant", defArgs s_most_meant, defBody s_most_meant, defScope s_most_meant, [], []⟩
abbrev s_with_inner : Stmt := top 91
abbrev N_with_inner : List Str := ["card", "some"]
def d_with_inner : He.DefD := ⟨("with_inner", none), "with_inner", "with_inner", defArgs s_with_inner, defBody s_with_inner, defScope s_with_inner, [], []⟩
abbrev s_meaning : Stmt := top 92
abbrev N_meaning : List Str := ["card", "meanings", "one"]
def d_meaning : He.DefD := ⟨("meaning", none), "meaning", "meaning", defArgs s_meaning, defBody s_meaning, defScope s_meaning, [], []⟩
abbrev s_all_meanings : Stmt := top 93
abbrev N_all_meanings : List Str := ["lines", "found", "turn", "name", "card", "one"]
def d_all_meanings : He.DefD := ⟨("all_meanings", none), "all_meanings", "all_meanings", defArgs s_all_meanings, defBody s_all_meanings, defScope s_all_meanings, [], []⟩
abbrev s_Book_init : Stmt := meth 96 0
abbrev N_Book_init : List Str := ["self"]
def d_Book_init : He.DefD := ⟨("Book", some "__init__"), "__init__", "Book.__init__", defArgs s_Book_init, defBody s_Book_init, defScope s_Book_init, [], []⟩
abbrev s_Book_names : Stmt := meth 96 1
abbrev N_Book_names : List Str := ["self"]
def d_Book_names : He.DefD := ⟨("Book", some "names"), "names", "Book.names", defArgs s_Book_names, defBody s_Book_names, defScope s_Book_names, [], []⟩
abbrev s_Book_want_line : Stmt := meth 96 2
abbrev N_Book_want_line : List Str := ["self", "name"]
def d_Book_want_line : He.DefD := ⟨("Book", some "want_line"), "want_line", "Book.want_line", defArgs s_Book_want_line, defBody s_Book_want_line, defScope s_Book_want_line, [], []⟩
abbrev s_Book_put : Stmt := meth 96 3
abbrev N_Book_put : List Str := ["self", "name", "card", "lines", "one", "chain"]
def d_Book_put : He.DefD := ⟨("Book", some "put"), "put", "Book.put", defArgs s_Book_put, defBody s_Book_put, defScope s_Book_put, [], []⟩
abbrev s_Book_take_out : Stmt := meth 96 4
abbrev N_Book_take_out : List Str := ["self", "name", "one"]
def d_Book_take_out : He.DefD := ⟨("Book", some "take_out"), "take_out", "Book.take_out", defArgs s_Book_take_out, defBody s_Book_take_out, defScope s_Book_take_out, [], []⟩
abbrev s_Book_meant : Stmt := meth 96 11
abbrev N_Book_meant : List Str := ["self", "name"]
def d_Book_meant : He.DefD := ⟨("Book", some "meant"), "meant", "Book.meant", defArgs s_Book_meant, defBody s_Book_meant, defScope s_Book_meant, [], []⟩
abbrev s_Book_now : Stmt := meth 96 12
abbrev N_Book_now : List Str := ["self", "name"]
def d_Book_now : He.DefD := ⟨("Book", some "now"), "now", "Book.now", defArgs s_Book_now, defBody s_Book_now, defScope s_Book_now, [], []⟩
abbrev s_L_pot : Stmt := top 98
abbrev N_L_pot : List Str := ["_law_script", "_law_k", "_law_cell"]
def d_L_pot : He.DefD := ⟨("_law_pot", none), "_law_pot", "_law_pot", defArgs s_L_pot, defBody s_L_pot, defScope s_L_pot, [], []⟩
abbrev s_L_take : Stmt := top 99
abbrev N_L_take : List Str := ["_law_pot_here", "_law_many", "_law_digit"]
def d_L_take : He.DefD := ⟨("_law_take", none), "_law_take", "_law_take", defArgs s_L_take, defBody s_L_take, defScope s_L_take, [], []⟩
abbrev s_L_word : Stmt := top 101
abbrev N_L_word : List Str := ["_law_pot_here", "_law_letters", "_law_k"]
def d_L_word : He.DefD := ⟨("_law_word", none), "_law_word", "_law_word", defArgs s_L_word, defBody s_L_word, defScope s_L_word, [], []⟩
abbrev s_L_pool : Stmt := top 102
abbrev N_L_pool : List Str := ["_law_pot_here", "_law_many", "_law_found", "_law_k", "_law_word_here"]
def d_L_pool : He.DefD := ⟨("_law_pool", none), "_law_pool", "_law_pool", defArgs s_L_pool, defBody s_L_pool, defScope s_L_pool, [], []⟩
abbrev s_L_lot : Stmt := top 103
abbrev N_L_lot : List Str := ["_law_pot_here", "_law_k"]
def d_L_lot : He.DefD := ⟨("_law_lot", none), "_law_lot", "_law_lot", defArgs s_L_lot, defBody s_L_lot, defScope s_L_lot, [], []⟩
abbrev s_L_minute : Stmt := top 104
abbrev N_L_minute : List Str := ["_law_pot_here"]
def d_L_minute : He.DefD := ⟨("_law_minute", none), "_law_minute", "_law_minute", defArgs s_L_minute, defBody s_L_minute, defScope s_L_minute, [], []⟩
abbrev s_L_days : Stmt := top 105
abbrev N_L_days : List Str := ["_law_pot_here", "_law_way", "_law_k", "_law_bits", "_law_low", "_law_high", "_law_gone", "_law_more"]
def d_L_days : He.DefD := ⟨("_law_days", none), "_law_days", "_law_days", defArgs s_L_days, defBody s_L_days, defScope s_L_days, [], []⟩
abbrev s_L_leaf : Stmt := top 106
abbrev N_L_leaf : List Str := ["_law_pot_here", "_law_way", "_law_k", "_law_spots_here", "_law_spot"]
def d_L_leaf : He.DefD := ⟨("_law_leaf", none), "_law_leaf", "_law_leaf", defArgs s_L_leaf, defBody s_L_leaf, defScope s_L_leaf, [], []⟩
abbrev s_L_card : Stmt := top 107
abbrev N_L_card : List Str := ["_law_pot_here", "_law_deep", "_law_names", "_law_way", "_law_first"]
def d_L_card : He.DefD := ⟨("_law_card", none), "_law_card", "_law_card", defArgs s_L_card, defBody s_L_card, defScope s_L_card, [], []⟩
abbrev s_L_inner : Stmt := top 108
abbrev N_L_inner : List Str := ["_law_card_here"]
def d_L_inner : He.DefD := ⟨("_law_inner", none), "_law_inner", "_law_inner", defArgs s_L_inner, defBody s_L_inner, defScope s_L_inner, [], []⟩
abbrev s_L_on : Stmt := top 109
abbrev N_L_on : List Str := ["_law_days_here"]
def d_L_on : He.DefD := ⟨("_law_on", none), "_law_on", "_law_on", defArgs s_L_on, defBody s_L_on, defScope s_L_on, [], []⟩
abbrev s_L_made : Stmt := top 110
abbrev N_L_made : List Str := ["_law_card_here", "_law_part", "_law_some", "_law_spot"]
def d_L_made : He.DefD := ⟨("_law_made", none), "_law_made", "_law_made", defArgs s_L_made, defBody s_L_made, defScope s_L_made, [], []⟩
abbrev s_L_names_in : Stmt := top 111
abbrev N_L_names_in : List Str := ["_law_card_here", "_law_found", "_law_part"]
def d_L_names_in : He.DefD := ⟨("_law_names_in", none), "_law_names_in", "_law_names_in", defArgs s_L_names_in, defBody s_L_names_in, defScope s_L_names_in, [], []⟩
abbrev s_L_size : Stmt := top 112
abbrev N_L_size : List Str := ["_law_card_here", "_law_lines", "_law_part"]
def d_L_size : He.DefD := ⟨("_law_size", none), "_law_size", "_law_size", defArgs s_L_size, defBody s_L_size, defScope s_L_size, [], []⟩
abbrev s_L_has : Stmt := top 113
abbrev N_L_has : List Str := ["_law_days_here", "_law_spot", "_law_bits", "_law_low", "_law_high", "_law_gone", "_law_more"]
def d_L_has : He.DefD := ⟨("_law_has", none), "_law_has", "_law_has", defArgs s_L_has, defBody s_L_has, defScope s_L_has, [], []⟩
abbrev s_L_joined : Stmt := top 114
abbrev N_L_joined : List Str := ["_law_first", "_law_last"]
def d_L_joined : He.DefD := ⟨("_law_joined", none), "_law_joined", "_law_joined", defArgs s_L_joined, defBody s_L_joined, defScope s_L_joined, [], []⟩
abbrev s_L_notes : Stmt := top 115
abbrev N_L_notes : List Str := ["_law_card_here", "_law_spot", "_law_lines", "_law_first", "_law_last"]
def d_L_notes : He.DefD := ⟨("_law_notes", none), "_law_notes", "_law_notes", defArgs s_L_notes, defBody s_L_notes, defScope s_L_notes, [], []⟩
abbrev s_L_goes : Stmt := top 116
abbrev N_L_goes : List Str := ["_law_card_here", "_law_lines", "_law_k", "_law_found", "_law_part", "_law_spot"]
def d_L_goes : He.DefD := ⟨("_law_goes", none), "_law_goes", "_law_goes", defArgs s_L_goes, defBody s_L_goes, defScope s_L_goes, [], []⟩
abbrev s_L_below : Stmt := top 117
abbrev N_L_below : List Str := ["_law_lines", "_law_name", "_law_found", "_law_turn", "_law_other", "_law_below_here"]
def d_L_below : He.DefD := ⟨("_law_below", none), "_law_below", "_law_below", defArgs s_L_below, defBody s_L_below, defScope s_L_below, [], []⟩
abbrev s_L_free : Stmt := top 118
abbrev N_L_free : List Str := ["_law_lines", "_law_name", "_law_names", "_law_other"]
def d_L_free : He.DefD := ⟨("_law_free", none), "_law_free", "_law_free", defArgs s_L_free, defBody s_L_free, defScope s_L_free, [], []⟩
abbrev s_L_new_card : Stmt := top 119
abbrev N_L_new_card : List Str := ["_law_pot_here", "_law_lines", "_law_name", "_law_names", "_law_deep", "_law_card_here", "_law_after", "_law_other"]
def d_L_new_card : He.DefD := ⟨("_law_new_card", none), "_law_new_card", "_law_new_card", defArgs s_L_new_card, defBody s_L_new_card, defScope s_L_new_card, [], []⟩
abbrev s_L_has_as : Stmt := top 120
abbrev N_L_has_as : List Str := ["_law_card_here", "_law_part"]
def d_L_has_as : He.DefD := ⟨("_law_has_as", none), "_law_has_as", "_law_has_as", defArgs s_L_has_as, defBody s_L_has_as, defScope s_L_has_as, [], []⟩
abbrev s_L_at : Stmt := top 121
abbrev N_L_at : List Str := ["_law_card_here", "_law_spot", "_law_found"]
def d_L_at : He.DefD := ⟨("_law_at", none), "_law_at", "_law_at", defArgs s_L_at, defBody s_L_at, defScope s_L_at, [], []⟩
abbrev s_L_line_right : Stmt := top 122
abbrev N_L_line_right : List Str := ["_law_book", "_law_lines", "_law_name", "_law_spots_here", "_law_card_here", "_law_spot", "_law_lot_here", "_law_due"]
def d_L_line_right : He.DefD := ⟨("_law_line_right", none), "_law_line_right", "_law_line_right", defArgs s_L_line_right, defBody s_L_line_right, defScope s_L_line_right, [], []⟩
abbrev s_L_spots : Stmt := top 123
abbrev N_L_spots : List Str := ["_law_pot_here", "_law_lines", "_law_found", "_law_names", "_law_k", "_law_some"]
def d_L_spots : He.DefD := ⟨("_law_spots", none), "_law_spots", "_law_spots", defArgs s_L_spots, defBody s_L_spots, defScope s_L_spots, [], []⟩
abbrev s_law : Stmt := top 124
abbrev N_law : List Str := ["_law_script", "_law_names", "_law_book", "_law_lines", "_law_k", "_law_pot_here", "_law_way", "_law_name", "_law_other", "_law_users", "_law_spots_here"]
def d_law : He.DefD := ⟨("law", none), "law", "law", defArgs s_law, defBody s_law, defScope s_law, [], []⟩
def fnL0 : List He.DefD := [d_is_whole, d_is_moment, d_want_moment, d_want_day, d_are_signs, d_Ring_init, d_Ring_rings, d_told_days, d_want_till, d_Days_init, d_Days_has, d_is_name, d_notes_of, d_notes_together, d_Going_init, d_is_number, d_all_rising, d_shorts_in, d_row_moments, d_row_many, d_At_init, d_At_moments, d_At_begins, d_At_ends]
def fnL1 : List He.DefD := [d_At_means_many, d_Spread_init, d_Spread_moments, d_want, d_Card_init, d_Card_inner, d_Card_size, d_Once_init, d_Once_notes_at, d_Every_init, d_Every_notes_at, d_Join_init, d_Join_notes_at, d_Less_init, d_Less_notes_at, d_Swap_init, d_Swap_notes_at, d_Later_init, d_Later_notes_at, d_Noted_init, d_Noted_notes_at, d_As_init, d_first_as, d_want_card]
def fnL2 : List He.DefD := [d_want_known, d_going_at, d_changed_card, d_names_in, d_chain_round, d_count_card, d_most_meant, d_with_inner, d_meaning, d_all_meanings, d_Book_init, d_Book_names, d_Book_want_line, d_Book_put, d_Book_take_out, d_Book_meant, d_Book_now, d_L_pot, d_L_take, d_L_word, d_L_pool, d_L_lot, d_L_minute, d_L_days]
def fnL3 : List He.DefD := [d_L_leaf, d_L_card, d_L_inner, d_L_on, d_L_made, d_L_names_in, d_L_size, d_L_has, d_L_joined, d_L_notes, d_L_goes, d_L_below, d_L_free, d_L_new_card, d_L_has_as, d_L_at, d_L_line_right, d_L_spots, d_law]
def fnL : List He.DefD := fnL0 ++ (fnL1 ++ (fnL2 ++ (fnL3)))
def gL0 : List Str := ["is_whole", "is_moment", "want_moment", "want_day", "are_signs", "told_days", "want_till", "is_name", "notes_of", "notes_together", "is_number", "all_rising", "shorts_in", "row_moments", "row_many", "want", "first_as", "want_card", "want_known", "going_at", "changed_card", "names_in", "chain_round", "count_card"]
def gL1 : List Str := ["most_meant", "with_inner", "meaning", "all_meanings", "_law_pot", "_law_take", "_law_word", "_law_pool", "_law_lot", "_law_minute", "_law_days", "_law_leaf", "_law_card", "_law_inner", "_law_on", "_law_made", "_law_names_in", "_law_size", "_law_has", "_law_joined", "_law_notes", "_law_goes", "_law_below", "_law_free"]
def gL2 : List Str := ["_law_new_card", "_law_has_as", "_law_at", "_law_line_right", "_law_spots", "law", "Ring", "Days", "Going", "Short", "At", "Spread", "Card", "Once", "Every", "Join", "Less", "Swap", "Later", "Noted", "As", "Book"]
def gL : List Str := gL0 ++ (gL1 ++ (gL2))
def bL0 : List Str := ["isinstance", "all", "any", "len", "range", "tuple", "list", "dict", "sorted", "set", "zip", "sum", "max", "min", "int", "str", "bool", "divmod", "repr"]
def bL : List Str := bL0
def iL : List (Str × Int) := [("HOUR", 60), ("DAY", 1440), ("MOST_SIGNS", 7), ("MOST_DAYS", 8), ("LONGEST_NAME", 8), ("MOST_MOMENTS", 1440), ("MOST_CARDS", 60), ("LATEST", 10080), ("MOST_MEANT", 30)]
def sL : List (Str × Str) := [("NOUGHT", "0"), ("ONE", "1"), ("NAME_SIGNS", "abcdefghijklmnopqrstuvwxyz")]
def cL0 : List Str := ["Ring", "Days", "Going", "At", "Spread", "Book", "Once", "Every", "Join", "Less", "Swap", "Later", "Noted", "As"]
def cL : List Str := cL0
def nL0 : List (Str × Str) := [("Ring", "bits"), ("Days", "ring"), ("Days", "since"), ("Days", "till"), ("Days", "out"), ("Days", "also"), ("Going", "moment"), ("Going", "notes"), ("At", "moment"), ("Spread", "kept"), ("Spread", "held"), ("Book", "lines"), ("Book", "meanings"), ("Book", "changed"), ("Once", "spread"), ("Once", "notes"), ("Once", "own"), ("Once", "held"), ("Once", "weight"), ("Every", "days"), ("Every", "spread"), ("Every", "notes"), ("Every", "own"), ("Every", "held")]
def nL1 : List (Str × Str) := [("Every", "weight"), ("Join", "held"), ("Join", "weight"), ("Less", "held"), ("Less", "weight"), ("Swap", "days"), ("Swap", "held"), ("Swap", "weight"), ("Later", "minutes"), ("Later", "held"), ("Later", "weight"), ("Noted", "note"), ("Noted", "held"), ("Noted", "weight"), ("As", "name"), ("As", "held"), ("As", "weight")]
def nL : List (Str × Str) := nL0 ++ (nL1)
def mL0 : List (Str × Str) := [("Ring", "rings"), ("Days", "has"), ("At", "moments"), ("At", "begins"), ("At", "ends"), ("At", "means_many"), ("Spread", "moments"), ("Book", "names"), ("Book", "want_line"), ("Book", "put"), ("Book", "take_out"), ("Book", "meant"), ("Book", "now"), ("Once", "inner"), ("Once", "size"), ("Once", "notes_at"), ("Every", "inner"), ("Every", "size"), ("Every", "notes_at"), ("Join", "inner"), ("Join", "size"), ("Join", "notes_at"), ("Less", "inner"), ("Less", "size")]
def mL1 : List (Str × Str) := [("Less", "notes_at"), ("Swap", "inner"), ("Swap", "size"), ("Swap", "notes_at"), ("Later", "inner"), ("Later", "size"), ("Later", "notes_at"), ("Noted", "inner"), ("Noted", "size"), ("Noted", "notes_at"), ("As", "inner"), ("As", "size")]
def mL : List (Str × Str) := mL0 ++ (mL1)
def kL0 : List Str := ["Ring", "Days", "Going", "At", "Spread", "Book", "Once", "Every", "Join", "Less", "Swap", "Later", "Noted", "As"]
def kL : List Str := kL0
def faL : List He.Fa := gL.map .glo ++ (bL.map .free ++ (iL.map (fun p => .int p.1 p.2) ++ (sL.map (fun p => .str p.1 p.2) ++ (cL.map .cls ++ (nL.map (fun p => .noat p.1 p.2) ++ (mL.map (fun p => .meth p.1 p.2) ++ kL.map .mkr))))))
def insB (K : PySem.W.Frag) (x : Str) : Bool := He.eqO (PySem.W.findIn K (.ref (He.ga K x)) "__class__") (some (some (.builtin "object.__class__"))) && (He.eqO (PySem.W.specialIn K (.builtin "object.__class__") "__get__") (some (some (.builtin "getset_descriptor.__get__"))) &&
  (decide (PySem.W.takesIn K (.builtin "object.__class__") = some true) && decide (PySem.W.mroIn K (He.ga K x) (.type "object") = some true)))
def kitB (K : PySem.W.Frag) (x y : Str) (b : Bool) : Bool := decide (PySem.W.kitOne K (.ref (He.ga K x)) (.ref (He.ga K y)) = some b)
def cardL : List Str := ["Once", "Every", "Join", "Less", "Swap", "Later", "Noted", "As"]
def kindL : List Str := ["Card", "As", "Join", "Less", "Swap", "Later", "Noted"]
def pairL : List (Str × Str) := [("Ring", "Ring"), ("At", "Short"), ("Spread", "Spread"), ("Days", "Days")]
def samM (K : PySem.W.Frag) (x m : Str) : Bool := decide (He.ma K (He.ga K x) m = He.ma K (He.ga K "Card") m)
def exB (K : PySem.W.Frag) : Bool := cL.all (insB K) && (cardL.all (fun x => kindL.all fun y => kitB K x y (decide (x = y) || decide (y = "Card"))) && (pairL.all (fun p => kitB K p.1 p.2 true) && cardL.all fun x => samM K x "inner" && samM K x "size"))

end Tr

set_option Elab.async false
set_option linter.all false
set_option maxRecDepth 100000
set_option maxHeartbeats 4000000
namespace Tr
open PySem PySem.Spec L2
def cfunB (K : PySem.W.Frag) (C : Addr) (m : Str) : Bool := match PySem.W.findCls K (.ref C) (.type "type") m with
  | some (.val (.ref a)) => decide (a = He.ma K C m)
  | _ => false
theorem cfunB_ok {K : PySem.W.Frag} {C : Addr} {m : Str} (h : cfunB K C m = true) : ClX.CVal K C (.type "type") m (.ref (He.ma K C m)) (.ref (He.ma K C m)) := by
  unfold cfunB at h
  split at h
  · rename_i a e
    have ea := of_decide_eq_true h
    subst ea
    exact ⟨e, rfl⟩
  · cases h
def baseB (K : PySem.W.Frag) : Bool := PySem.W.readsIn K (He.ga K "Card") (.type "type") && (He.eqO (PySem.W.specialIn K (.ref (He.ga K "Card")) "__getattribute__") (some (some (.builtin "type.__getattribute__"))) && (cfunB K (He.ga K "Card") "__init__" && PySem.W.keepIn K (.ref (He.ma K (He.ga K "Card") "__init__"))))
abbrev AlK : Type := Bool × Bool × List He.FnW
def obsK (K : PySem.W.Frag) : AlK := ((faL.all fun f => f.ok K) && fnL.all fun d => d.ok K, exB K && baseB K, fnL.map fun d => He.fnW K d.at_)
def valK : AlK := (true, true, fnL.map He.DefD.val)
/-- the objects that the module's names stand for, the classes and their namespaces first -/
def refsAt (g : Addr → Option Obj) (a : Addr) : List Addr := match g a with
  | some o => He.refsO o
  | none => []
def isC (g : Addr → Option Obj) (a : Addr) : Bool := match g a with
  | some ⟨_, _, .cls _, _⟩ => true
  | _ => false
def nsOf (g : Addr → Option Obj) (a : Addr) : Addr := match g a with
  | some ⟨_, _, .cls cd, _⟩ => cd.ns
  | _ => 0
def asK (g : Addr → Option Obj) : List Addr :=
  match refsAt g mainGlobals with
  | gs => match gs.filter (isC g) with
    | cs => match cs.map (nsOf g) with
      | ns => match ns.flatMap (refsAt g) with
        | ms => mainGlobals :: (ns ++ (cs ++ (ms ++ (gs ++ (ms.flatMap (refsAt g) ++ (gs.flatMap (refsAt g) ++ [PySem.cStatics]))))))
def obsA (g : Addr → Option Obj) : AlK := obsK (He.frG g (asK g))
def hkK : PySem.W.Hook where
  α := AlK
  obs := fun s => obsA s.heap.get?
  val := fun _ => valK
  says := fun _ h => ∃ K : PySem.W.Frag, K.In h ∧ obsK K = valK
  of := fun _ _ e => ⟨_, He.frG_in, e⟩
  keeps := fun _ _ _ ⟨K, hK, c⟩ k => ⟨K, PySem.W.Frag.In.keeps hK k, c⟩
def obT (s : PySem.W.SharedT) : AlK := obsA (HandSHeadRun.getT s)
theorem obT_eq (s : PySem.W.SharedT) : obT s = hkK.obs s.abs := by
  have e : HandSHeadRun.getT s = s.abs.heap.get? := funext (HandSHeadRun.getT_eq s)
  show obsA (HandSHeadRun.getT s) = obsA s.abs.heap.get?
  rw [e]
end Tr

set_option Elab.async false
set_option linter.all false
set_option maxRecDepth 100000
set_option maxHeartbeats 0
namespace Tr
open PySem PySem.W PySem.Calls PyProof.Rows HandSHeadRun
abbrev RR : OpenRow := OpenLaw.row PySem.Challenge.rw_shortgoings_k83_whole_lines_meant
def nm1 : List PySem.Str := ["_wall", "GoingError", "LackError", "BookError", "NoTime", "NoPiece", "NoDays", "NoCard", "NoName", "NoLine", "Needed", "Round", "TooMuch", "HOUR", "DAY", "COLON", "BLANK", "is_whole", "is_moment", "want_moment", "clock_of", "show_moment", "MOST_SIGNS", "NOUGHT", "ONE", "want_day", "are_signs", "Ring"]
def nm2 : List PySem.Str := ["MOST_DAYS", "FROM", "TO", "NOT", "ALSO", "told_days", "want_till", "Days", "edges_of", "stretches", "first_days", "common_round", "first_apart", "NAME_SIGNS", "LONGEST_NAME", "is_name", "notes_of", "notes_together", "Going", "MOST_MOMENTS", "NO_PARTS", "is_number", "Short", "all_rising", "shorts_in", "row_moments", "row_many", "row_text"]
def nm3 : List PySem.Str := ["At", "Spread", "MOST_CARDS", "LATEST", "want", "Card", "Once", "Every", "Join", "Less", "Swap", "Later", "Noted", "As", "first_as", "want_card", "want_known", "going_at", "once_at", "changed_card", "names_in", "way_back", "chain_round", "count_card", "most_meant", "with_inner", "meaning", "all_meanings"]
def nm4 : List PySem.Str := ["MOST_MEANT", "Book", "_law_pot", "_law_take", "_law_great", "_law_word", "_law_pool", "_law_lot", "_law_minute", "_law_days", "_law_leaf", "_law_card", "_law_inner", "_law_on", "_law_made", "_law_names_in", "_law_size", "_law_has", "_law_joined", "_law_notes", "_law_goes", "_law_below", "_law_free", "_law_new_card", "_law_has_as", "_law_at", "_law_line_right", "_law_spots"]
def loose : List PySem.Str := nm1 ++ (nm2 ++ (nm3 ++ (nm4)))
noncomputable def ends (w : World) (os : OsState) : Option SharedT := endF (stepQ (denQ tabQ) RR.prog w) 20000 RR.prog w os
theorem head1 (w : World) (os : OsState) : (ends w os).map (fun s => (looksF RR.prog (boot_heap w.params) s.abs, seenQ (PySem.W.view RR.prog [124]) loose (importedModules RR.prog.main.body) (fun s => xlAt (PySem.W.view RR.prog [124]) [] s && recOk RR.toRowW.records s) s.abs)) = some (true, openGood (PySem.W.view RR.prog [124]) loose) := by
  kernel_rfl
def obP (s : SharedT) : Bool × Bool := match He.frG (getT s) (asK (getT s)) with
  | K => (faL.all fun f => f.ok K, exB K && baseB K)
theorem head2 (w : World) (os : OsState) : (ends w os).map obP = some (true, true) := by
  kernel_rfl
def obF (s : SharedT) : Bool := match He.frG (getT s) (asK (getT s)) with
  | K => fnL.all fun d => d.ok K
theorem head3 (w : World) (os : OsState) : (ends w os).map obF = some true := by
  kernel_rfl
def obV (s : SharedT) : List He.FnW := match He.frG (getT s) (asK (getT s)) with
  | K => fnL.map fun d => He.fnW K d.at_
theorem head4 (w : World) (os : OsState) : (ends w os).map obV = some (fnL.map He.DefD.val) := by
  kernel_rfl
theorem map_some {α β : Type} {o : Option α} {f : α → β} {b : β} (h : o.map f = some b) {s : α} (e : o = some s) : f s = b := by
  rw [e] at h
  exact Option.some.inj h
theorem head_run (w : World) : RunEq RR (PySem.W.view RR.prog [124]) hkK obT 20000 loose w := by
  intro os
  have h1 := head1 w os
  have h2 := head2 w os
  have h3 := head3 w os
  have h4 := head4 w os
  show (ends w os).map _ = _
  cases e : ends w os with
  | none =>
    rw [e] at h1
    cases h1
  | some s =>
    have z1 := map_some h1 e
    have z2 := map_some h2 e
    have z3 := map_some h3 e
    have z4 := map_some h4 e
    have y1 : looksF RR.prog (boot_heap w.params) s.abs = true := congrArg Prod.fst z1
    have y2 := congrArg Prod.snd z1
    have a1 : (faL.all fun f => f.ok (He.frG (getT s) (asK (getT s)))) = true := congrArg Prod.fst z2
    have a2 : (exB (He.frG (getT s) (asK (getT s))) && baseB (He.frG (getT s) (asK (getT s)))) = true := congrArg Prod.snd z2
    have a3 : (fnL.all fun d => d.ok (He.frG (getT s) (asK (getT s)))) = true := z3
    have a4 : (fnL.map fun d => He.fnW (He.frG (getT s) (asK (getT s))) d.at_) = fnL.map He.DefD.val := z4
    have y3 : obT s = valK := by
      show ((faL.all fun f => f.ok (He.frG (getT s) (asK (getT s)))) && fnL.all fun d => d.ok (He.frG (getT s) (asK (getT s))), exB (He.frG (getT s) (asK (getT s))) && baseB (He.frG (getT s) (asK (getT s))), fnL.map fun d => He.fnW (He.frG (getT s) (asK (getT s))) d.at_) = valK
      rw [a1, a2, a3, a4] <;> rfl
    show some _ = some _
    exact congrArg some (Prod.ext y1 (Prod.ext y2 y3))
end Tr

set_option Elab.async false
set_option linter.all false
set_option maxRecDepth 100000
set_option maxHeartbeats 4000000
/-! The tree layer: values as trees over a solid heap G, and a map M of the objects that are owned (may change). -/
namespace Tr
open PySem L2

/-- a value as a tree; adr: an address by itself (an owned object, a class) -/
inductive T where
  | non | bl (b : Bool) | int (i : Int) | str (x : Str) | ty (n : String) | adr (a : Addr)
  | tup (ts : List T) | lst (ts : List T) | ins (C : Addr) (fs : List (Str × T)) | dic (kvs : List (Key × T))

mutual
def Rep (G : Hp) : T → V → Prop
  | .non, v => v = .non
  | .bl b, v => v = .bl b
  | .int i, v => v = .int i
  | .str x, v => v = .str x
  | .ty n, v => v = .ty n
  | .adr a, v => v = .ref a
  | .tup ts, v => ∃ a vs, v = .ref a ∧ G a = some (.tup vs) ∧ Reps G ts vs
  | .lst ts, v => ∃ a vs, v = .ref a ∧ G a = some (.lst vs) ∧ Reps G ts vs
  | .ins C fs, v => ∃ a dx vs, v = .ref a ∧ G a = some (.ins C dx vs) ∧ RepF G fs vs
  | .dic kvs, v => ∃ a vs, v = .ref a ∧ G a = some (.dK vs) ∧ RepK G kvs vs
def Reps (G : Hp) : List T → List V → Prop
  | [], vs => vs = []
  | t :: ts, vs => ∃ v r, vs = v :: r ∧ Rep G t v ∧ Reps G ts r
def RepF (G : Hp) : List (Str × T) → List (Str × V) → Prop
  | [], vs => vs = []
  | (f, t) :: ts, vs => ∃ v r, vs = (f, v) :: r ∧ Rep G t v ∧ RepF G ts r
def RepK (G : Hp) : List (Key × T) → List (Key × V) → Prop
  | [], vs => vs = []
  | (k, t) :: ts, vs => ∃ v r, vs = (k, v) :: r ∧ Rep G t v ∧ RepK G ts r
end

mutual
theorem Rep.mono {G G' : Hp} (h : Same G G') : ∀ {t : T} {v : V}, Rep G t v → Rep G' t v
  | .non, _, r => r
  | .bl _, _, r => r
  | .int _, _, r => r
  | .str _, _, r => r
  | .ty _, _, r => r
  | .adr _, _, r => r
  | .tup ts, _, r => by
    unfold Rep at r ⊢
    obtain ⟨a, vs, e, g, q⟩ := r
    exact ⟨a, vs, e, h _ _ g, Reps.mono h q⟩
  | .lst ts, _, r => by
    unfold Rep at r ⊢
    obtain ⟨a, vs, e, g, q⟩ := r
    exact ⟨a, vs, e, h _ _ g, Reps.mono h q⟩
  | .ins C fs, _, r => by
    unfold Rep at r ⊢
    obtain ⟨a, dx, vs, e, g, q⟩ := r
    exact ⟨a, dx, vs, e, h _ _ g, RepF.mono h q⟩
  | .dic kvs, _, r => by
    unfold Rep at r ⊢
    obtain ⟨a, vs, e, g, q⟩ := r
    exact ⟨a, vs, e, h _ _ g, RepK.mono h q⟩
theorem Reps.mono {G G' : Hp} (h : Same G G') : ∀ {ts : List T} {vs : List V}, Reps G ts vs → Reps G' ts vs
  | [], _, r => r
  | t :: ts, _, r => by
    unfold Reps at r ⊢
    obtain ⟨v, q, e, r1, r2⟩ := r
    exact ⟨v, q, e, Rep.mono h r1, Reps.mono h r2⟩
theorem RepF.mono {G G' : Hp} (h : Same G G') : ∀ {ts : List (Str × T)} {vs : List (Str × V)}, RepF G ts vs → RepF G' ts vs
  | [], _, r => r
  | (f, t) :: ts, _, r => by
    unfold RepF at r ⊢
    obtain ⟨v, q, e, r1, r2⟩ := r
    exact ⟨v, q, e, Rep.mono h r1, RepF.mono h r2⟩
theorem RepK.mono {G G' : Hp} (h : Same G G') : ∀ {ts : List (Key × T)} {vs : List (Key × V)}, RepK G ts vs → RepK G' ts vs
  | [], _, r => r
  | (f, t) :: ts, _, r => by
    unfold RepK at r ⊢
    obtain ⟨v, q, e, r1, r2⟩ := r
    exact ⟨v, q, e, Rep.mono h r1, RepK.mono h r2⟩
end

/-! ### lists of trees by place -/
section
variable {G : Hp}
theorem Reps.nil : Reps G [] [] := by unfold Reps; rfl
theorem Reps.cons {t : T} {v : V} {ts : List T} {vs : List V} (h : Rep G t v) (r : Reps G ts vs) : Reps G (t :: ts) (v :: vs) := by
  unfold Reps
  exact ⟨v, vs, rfl, h, r⟩
theorem Reps.len : ∀ {ts : List T} {vs : List V}, Reps G ts vs → ts.length = vs.length
  | [], vs, r => by unfold Reps at r; subst r; rfl
  | t :: ts, vs, r => by
    unfold Reps at r
    obtain ⟨v, q, rfl, _, r2⟩ := r
    show ts.length + 1 = q.length + 1
    rw [Reps.len r2]
theorem Reps.get : ∀ {ts : List T} {vs : List V} {i : Nat} {t : T}, Reps G ts vs → ts[i]? = some t → ∃ v, vs[i]? = some v ∧ Rep G t v
  | [], _, i, _, _, e => by simp at e
  | x :: ts, vs, i, t, r, e => by
    unfold Reps at r
    obtain ⟨v, q, rfl, r1, r2⟩ := r
    cases i with
    | zero =>
      have e' : x = t := by simpa using e
      subst e'
      exact ⟨v, rfl, r1⟩
    | succ i =>
      obtain ⟨u, h1, h2⟩ := Reps.get (i := i) r2 (by simpa using e)
      exact ⟨u, by simpa using h1, h2⟩
theorem Reps.back : ∀ {ts : List T} {vs : List V} {i : Nat} {v : V}, Reps G ts vs → vs[i]? = some v → ∃ t, ts[i]? = some t ∧ Rep G t v
  | [], vs, i, v, r, e => by unfold Reps at r; subst r; simp at e
  | x :: ts, vs, i, v, r, e => by
    unfold Reps at r
    obtain ⟨u, q, rfl, r1, r2⟩ := r
    cases i with
    | zero =>
      have e' : u = v := by simpa using e
      subst e'
      exact ⟨x, rfl, r1⟩
    | succ i =>
      obtain ⟨t, h1, h2⟩ := Reps.back (i := i) r2 (by simpa using e)
      exact ⟨t, by simpa using h1, h2⟩
theorem Reps.append : ∀ {ts us : List T} {vs ws : List V}, Reps G ts vs → Reps G us ws → Reps G (ts ++ us) (vs ++ ws)
  | [], _, vs, _, r, s => by unfold Reps at r; subst r; exact s
  | t :: ts, _, vs, _, r, s => by
    unfold Reps at r
    obtain ⟨v, q, rfl, r1, r2⟩ := r
    exact Reps.cons r1 (Reps.append r2 s)
theorem Reps.set : ∀ {ts : List T} {vs : List V} {t : T} {v : V} (i : Nat), Reps G ts vs → Rep G t v → Reps G (ts.set i t) (vs.set i v)
  | [], vs, _, _, _, r, _ => by unfold Reps at r; subst r; exact Reps.nil
  | x :: ts, vs, t, v, i, r, h => by
    unfold Reps at r
    obtain ⟨u, q, rfl, r1, r2⟩ := r
    cases i with
    | zero => exact Reps.cons h r2
    | succ i => exact Reps.cons r1 (Reps.set i r2 h)
theorem Reps.drop : ∀ {ts : List T} {vs : List V} (n : Nat), Reps G ts vs → Reps G (ts.drop n) (vs.drop n)
  | [], vs, n, r => by unfold Reps at r; subst r; simp; exact Reps.nil
  | x :: ts, vs, n, r => by
    cases n with
    | zero => exact r
    | succ n =>
      unfold Reps at r
      obtain ⟨u, q, rfl, r1, r2⟩ := r
      exact Reps.drop n r2
theorem Reps.take : ∀ {ts : List T} {vs : List V} (n : Nat), Reps G ts vs → Reps G (ts.take n) (vs.take n)
  | [], vs, n, r => by unfold Reps at r; subst r; simp; exact Reps.nil
  | x :: ts, vs, n, r => by
    cases n with
    | zero => exact Reps.nil
    | succ n =>
      unfold Reps at r
      obtain ⟨u, q, rfl, r1, r2⟩ := r
      exact Reps.cons r1 (Reps.take n r2)
/-- ints, texts: what a list of them is -/
theorem Reps.ints : ∀ {ns : List Int} {vs : List V}, Reps G (ns.map T.int) vs → vs = ns.map V.int
  | [], _, r => by unfold Reps at r; exact r
  | n :: ns, _, r => by
    unfold Reps at r
    obtain ⟨v, q, rfl, r1, r2⟩ := r
    unfold Rep at r1
    rw [r1, Reps.ints r2]
    rfl
theorem Reps.strs : ∀ {ns : List Str} {vs : List V}, Reps G (ns.map T.str) vs → vs = ns.map V.str
  | [], _, r => by unfold Reps at r; exact r
  | n :: ns, _, r => by
    unfold Reps at r
    obtain ⟨v, q, rfl, r1, r2⟩ := r
    unfold Rep at r1
    rw [r1, Reps.strs r2]
    rfl
theorem Reps.bls : ∀ {ns : List Bool} {vs : List V}, Reps G (ns.map T.bl) vs → vs = ns.map V.bl
  | [], _, r => by unfold Reps at r; exact r
  | n :: ns, _, r => by
    unfold Reps at r
    obtain ⟨v, q, rfl, r1, r2⟩ := r
    unfold Rep at r1
    rw [r1, Reps.bls r2]
    rfl
theorem Reps.of_ints (ns : List Int) : Reps G (ns.map T.int) (ns.map V.int) := by
  induction ns with
  | nil => exact Reps.nil
  | cons n ns ih => exact Reps.cons (by unfold Rep; rfl) ih
theorem Reps.of_strs (ns : List Str) : Reps G (ns.map T.str) (ns.map V.str) := by
  induction ns with
  | nil => exact Reps.nil
  | cons n ns ih => exact Reps.cons (by unfold Rep; rfl) ih
/-! fields -/
theorem RepF.nil : RepF G [] [] := by unfold RepF; rfl
theorem RepF.cons {f : Str} {t : T} {v : V} {ts : List (Str × T)} {vs : List (Str × V)} (h : Rep G t v) (r : RepF G ts vs) : RepF G ((f, t) :: ts) ((f, v) :: vs) := by
  unfold RepF
  exact ⟨v, vs, rfl, h, r⟩
theorem RepF.len : ∀ {ts : List (Str × T)} {vs : List (Str × V)}, RepF G ts vs → vs.length = ts.length
  | [], vs, r => by unfold RepF at r; subst r; rfl
  | (f, t) :: ts, vs, r => by
    unfold RepF at r
    obtain ⟨v, q, rfl, _, r2⟩ := r
    show q.length + 1 = ts.length + 1
    rw [RepF.len r2]
theorem RepF.look {f : Str} : ∀ {ts : List (Str × T)} {vs : List (Str × V)} {t : T}, RepF G ts vs → ts.lookup f = some t → ∃ v, vs.lookup f = some v ∧ Rep G t v
  | [], _, _, _, e => by cases e
  | (g, x) :: ts, vs, t, r, e => by
    unfold RepF at r
    obtain ⟨v, q, rfl, r1, r2⟩ := r
    by_cases h : f = g
    · subst h
      have e' : x = t := by simpa [List.lookup] using e
      subst e'
      exact ⟨v, by simp [List.lookup], r1⟩
    · have hb : (f == g) = false := beq_eq_false_iff_ne.mpr h
      have e' : ts.lookup f = some t := by simpa [List.lookup, hb] using e
      obtain ⟨u, h1, h2⟩ := RepF.look r2 e'
      exact ⟨u, by simpa [List.lookup, hb] using h1, h2⟩
theorem RepF.none {f : Str} : ∀ {ts : List (Str × T)} {vs : List (Str × V)}, RepF G ts vs → ts.lookup f = none → vs.lookup f = none
  | [], vs, r, _ => by unfold RepF at r; subst r; rfl
  | (g, x) :: ts, vs, r, e => by
    unfold RepF at r
    obtain ⟨v, q, rfl, r1, r2⟩ := r
    by_cases h : f = g
    · subst h
      simp [List.lookup] at e
    · have hb : (f == g) = false := beq_eq_false_iff_ne.mpr h
      have e' : ts.lookup f = Option.none := by simpa [List.lookup, hb] using e
      have h1 := RepF.none r2 e'
      simpa [List.lookup, hb] using h1
def putT (f : Str) (t : T) : List (Str × T) → List (Str × T)
  | [] => [(f, t)]
  | (g, x) :: r => if g = f then (g, t) :: r else (g, x) :: putT f t r
theorem RepF.put {f : Str} {t : T} {v : V} (h : Rep G t v) : ∀ {ts : List (Str × T)} {vs : List (Str × V)}, RepF G ts vs → RepF G (putT f t ts) (putF f v vs)
  | [], vs, r => by unfold RepF at r; subst r; exact RepF.cons h RepF.nil
  | (g, x) :: ts, vs, r => by
    unfold RepF at r
    obtain ⟨u, q, rfl, r1, r2⟩ := r
    by_cases e : g = f
    · have e1 : putT f t ((g, x) :: ts) = (g, t) :: ts := if_pos e
      have e2 : putF f v ((g, u) :: q) = (g, v) :: q := if_pos e
      rw [e1, e2]
      exact RepF.cons h r2
    · have e1 : putT f t ((g, x) :: ts) = (g, x) :: putT f t ts := if_neg e
      have e2 : putF f v ((g, u) :: q) = (g, u) :: putF f v q := if_neg e
      rw [e1, e2]
      exact RepF.cons r1 (RepF.put h r2)
/-! dicts -/
theorem RepK.nil : RepK G [] [] := by unfold RepK; rfl
theorem RepK.cons {f : Key} {t : T} {v : V} {ts : List (Key × T)} {vs : List (Key × V)} (h : Rep G t v) (r : RepK G ts vs) : RepK G ((f, t) :: ts) ((f, v) :: vs) := by
  unfold RepK
  exact ⟨v, vs, rfl, h, r⟩
theorem RepK.len : ∀ {ts : List (Key × T)} {vs : List (Key × V)}, RepK G ts vs → vs.length = ts.length
  | [], vs, r => by unfold RepK at r; subst r; rfl
  | (f, t) :: ts, vs, r => by
    unfold RepK at r
    obtain ⟨v, q, rfl, _, r2⟩ := r
    show q.length + 1 = ts.length + 1
    rw [RepK.len r2]
theorem RepK.keys : ∀ {ts : List (Key × T)} {vs : List (Key × V)}, RepK G ts vs → vs.map (·.1) = ts.map (·.1)
  | [], vs, r => by unfold RepK at r; subst r; rfl
  | (f, t) :: ts, vs, r => by
    unfold RepK at r
    obtain ⟨v, q, rfl, _, r2⟩ := r
    show f :: q.map (·.1) = f :: ts.map (·.1)
    rw [RepK.keys r2]
theorem RepK.get : ∀ {ts : List (Key × T)} {vs : List (Key × V)} {i : Nat} {k : Key} {t : T}, RepK G ts vs → ts[i]? = some (k, t) → ∃ v, vs[i]? = some (k, v) ∧ Rep G t v
  | [], _, i, _, _, _, e => by simp at e
  | (f, x) :: ts, vs, i, k, t, r, e => by
    unfold RepK at r
    obtain ⟨v, q, rfl, r1, r2⟩ := r
    cases i with
    | zero =>
      have e' : (f, x) = (k, t) := by simpa using e
      cases e'
      exact ⟨v, rfl, r1⟩
    | succ i =>
      obtain ⟨u, h1, h2⟩ := RepK.get (i := i) r2 (by simpa using e)
      exact ⟨u, by simpa using h1, h2⟩
/-- what a dict of trees holds at a key -/
def kget (k : Key) : List (Key × T) → Option T
  | [] => none
  | (j, t) :: r => if j = k then some t else kget k r
def kput (k : Key) (t : T) (kvs : List (Key × T)) : List (Key × T) :=
  if (kvs.any fun q => decide (q.1 = k)) = true then kvs.map (fun q => if q.1 = k then (q.1, t) else q) else kvs ++ [(k, t)]
def kdrop (k : Key) (kvs : List (Key × T)) : List (Key × T) := kvs.filter fun q => decide (q.1 ≠ k)
theorem RepK.append : ∀ {ts us : List (Key × T)} {vs ws : List (Key × V)}, RepK G ts vs → RepK G us ws → RepK G (ts ++ us) (vs ++ ws)
  | [], _, vs, _, r, s => by unfold RepK at r; subst r; exact s
  | (k, t) :: ts, _, vs, _, r, s => by
    unfold RepK at r
    obtain ⟨v, q, rfl, r1, r2⟩ := r
    exact RepK.cons r1 (RepK.append r2 s)
theorem RepK.any {k : Key} : ∀ {ts : List (Key × T)} {vs : List (Key × V)}, RepK G ts vs → (vs.any fun q => decide (q.1 = k)) = (ts.any fun q => decide (q.1 = k))
  | [], vs, r => by unfold RepK at r; subst r; rfl
  | (j, t) :: ts, vs, r => by
    unfold RepK at r
    obtain ⟨v, q, rfl, r1, r2⟩ := r
    rw [List.any_cons, List.any_cons, RepK.any r2]
theorem RepK.mapput {k : Key} {t : T} {v : V} (h : Rep G t v) : ∀ {ts : List (Key × T)} {vs : List (Key × V)}, RepK G ts vs → RepK G (ts.map fun q => if q.1 = k then (q.1, t) else q) (vs.map fun q => if q.1 = k then (q.1, v) else q)
  | [], vs, r => by unfold RepK at r; subst r; exact RepK.nil
  | (j, x) :: ts, vs, r => by
    unfold RepK at r
    obtain ⟨u, q, rfl, r1, r2⟩ := r
    rw [List.map_cons, List.map_cons]
    by_cases e : j = k
    · rw [if_pos e, if_pos e]
      exact RepK.cons h (RepK.mapput h r2)
    · rw [if_neg e, if_neg e]
      exact RepK.cons r1 (RepK.mapput h r2)
theorem RepK.put {k : Key} {t : T} {v : V} (h : Rep G t v) {ts : List (Key × T)} {vs : List (Key × V)} (r : RepK G ts vs) : RepK G (kput k t ts) (putK vs k v) := by
  unfold kput putK
  rw [RepK.any r]
  by_cases e : (ts.any fun q => decide (q.1 = k)) = true
  · rw [if_pos e, if_pos e]
    exact RepK.mapput h r
  · rw [if_neg e, if_neg e]
    exact RepK.append r (RepK.cons h RepK.nil)
theorem RepK.drop {k : Key} : ∀ {ts : List (Key × T)} {vs : List (Key × V)}, RepK G ts vs → RepK G (kdrop k ts) (dropK vs k)
  | [], vs, r => by unfold RepK at r; subst r; exact RepK.nil
  | (j, x) :: ts, vs, r => by
    unfold RepK at r
    obtain ⟨u, q, rfl, r1, r2⟩ := r
    unfold kdrop dropK
    rw [List.filter_cons, List.filter_cons]
    by_cases e : j = k
    · rw [if_neg (by simp [e]), if_neg (by simp [e])]
      exact RepK.drop r2
    · rw [if_pos (by simp [e]), if_pos (by simp [e])]
      exact RepK.cons r1 (RepK.drop r2)
theorem RepK.map_keys {ts : List (Key × T)} {vs : List (Key × V)} (r : RepK G ts vs) : vs.map (fun q => kV q.1) = ts.map (fun q => kV q.1) := by
  have h := RepK.keys r
  have e1 : vs.map (fun q => kV q.1) = (vs.map (·.1)).map kV := by rw [List.map_map]; rfl
  have e2 : ts.map (fun q => kV q.1) = (ts.map (·.1)).map kV := by rw [List.map_map]; rfl
  rw [e1, e2, h]
theorem valV_cons {j k : Key} {v : V} {r : List (Key × V)} : valV ((j, v) :: r) k = if j = k then some v else valV r k := by
  unfold valV
  by_cases h : j = k
  · simp [h]
  · simp [h]
theorem RepK.val {k : Key} : ∀ {ts : List (Key × T)} {vs : List (Key × V)}, RepK G ts vs → (∀ t, kget k ts = some t → ∃ v, valV vs k = some v ∧ Rep G t v) ∧ (kget k ts = none → valV vs k = none)
  | [], vs, r => by
    unfold RepK at r
    subst r
    exact ⟨fun t e => (nomatch e), fun _ => rfl⟩
  | (j, x) :: ts, vs, r => by
    unfold RepK at r
    obtain ⟨u, q, rfl, r1, r2⟩ := r
    have ih := RepK.val (k := k) r2
    rw [valV_cons]
    unfold kget
    by_cases e : j = k
    · rw [if_pos e, if_pos e]
      exact ⟨fun t h => ⟨u, rfl, (Option.some.inj h) ▸ r1⟩, fun h => nomatch h⟩
    · rw [if_neg e, if_neg e]
      exact ih
theorem kget_none {k : Key} : ∀ {ts : List (Key × T)}, kget k ts = none → ∀ p ∈ ts, p.1 ≠ k
  | [], _, p, hp => by cases hp
  | (j, x) :: ts, e, p, hp => by
    unfold kget at e
    by_cases h : j = k
    · rw [if_pos h] at e
      cases e
    · rw [if_neg h] at e
      rcases List.mem_cons.mp hp with z | z
      · rw [z]
        exact h
      · exact kget_none e p z
end
end Tr

set_option Elab.async false
set_option linter.all false
set_option maxRecDepth 100000
set_option maxHeartbeats 4000000
namespace Tr
open PySem L2

/-! ### owned objects -/
/-- how a dict is held: owned and free, solid, owned under a loop's lock -/
inductive Lk where
  | un | so | lk (o : Obj) (vs : List (Key × V))
inductive OO where
  | lst (xs : List T) | tup (xs : List T) | dic (lk : Lk) (kvs : List (Key × T)) | ins (C : Addr) (fs : List (Str × T))
abbrev Mh := Addr → Option OO
def mset (M : Mh) (a : Addr) (o : OO) : Mh := fun b => if b = a then some o else M b
def mdel (M : Mh) (a : Addr) : Mh := fun b => if b = a then none else M b
theorem mset_same {M : Mh} {a : Addr} {o : OO} : mset M a o a = some o := if_pos rfl
theorem mset_ne {M : Mh} {a b : Addr} {o : OO} (h : b ≠ a) : mset M a o b = M b := if_neg h
theorem mdel_same {M : Mh} {a : Addr} : mdel M a a = none := if_pos rfl
theorem mdel_ne {M : Mh} {a b : Addr} (h : b ≠ a) : mdel M a b = M b := if_neg h
theorem mset_set {M : Mh} {a : Addr} {o u : OO} : mset (mset M a o) a u = mset M a u := by
  funext b
  unfold mset
  by_cases h : b = a
  · rw [if_pos h, if_pos h]
  · rw [if_neg h, if_neg h, if_neg h]
theorem mdel_set {M : Mh} {a : Addr} {o : OO} (h : M a = none) : mdel (mset M a o) a = M := by
  funext b
  unfold mdel mset
  by_cases e : b = a
  · rw [if_pos e, e, h]
  · rw [if_neg e, if_neg e]
def OwnAt (G H : Hp) (l : Addr) : OO → Prop
  | .lst xs => ∃ vs, H l = some (.lst vs) ∧ Reps G xs vs
  | .tup xs => ∃ vs, H l = some (.tup vs) ∧ Reps G xs vs
  | .dic .un kvs => ∃ vs, H l = some (.dK vs) ∧ RepK G kvs vs
  | .dic .so kvs => False
  | .dic (.lk o vs) kvs => H l = some (.frz o (.dK vs)) ∧ RepK G kvs vs
  | .ins C fs => ∃ dx vs, H l = some (.ins C dx vs) ∧ RepF G fs vs
structure Stt (G : Hp) (M : Mh) (H : Hp) : Prop where
  gh : Same G H
  own : ∀ l o, M l = some o → G l = none ∧ OwnAt G H l o
theorem OwnAt.some {G H : Hp} {l : Addr} : ∀ {o : OO}, OwnAt G H l o → ∃ u, H l = some u
  | .lst _, ⟨_, h, _⟩ => ⟨_, h⟩
  | .tup _, ⟨_, h, _⟩ => ⟨_, h⟩
  | .dic .un _, ⟨_, h, _⟩ => ⟨_, h⟩
  | .dic (.lk _ _) _, ⟨h, _⟩ => ⟨_, h⟩
  | .ins _ _, ⟨_, _, h, _⟩ => ⟨_, h⟩
theorem OwnAt.mono {G G' H H' : Hp} {l : Addr} (g : Same G G') (h : H' l = H l) : ∀ {o : OO}, OwnAt G H l o → OwnAt G' H' l o
  | .lst _, ⟨vs, a, r⟩ => ⟨vs, h.trans a, r.mono g⟩
  | .tup _, ⟨vs, a, r⟩ => ⟨vs, h.trans a, r.mono g⟩
  | .dic .un _, ⟨vs, a, r⟩ => ⟨vs, h.trans a, r.mono g⟩
  | .dic (.lk _ _) _, ⟨a, r⟩ => ⟨h.trans a, r.mono g⟩
  | .ins _ _, ⟨dx, vs, a, r⟩ => ⟨dx, vs, h.trans a, r.mono g⟩
theorem Stt.mnone {G : Hp} {M : Mh} {H : Hp} (S : Stt G M H) {p : Addr} (h : H p = none) : M p = none := by
  cases e : M p with
  | none => rfl
  | some o =>
    obtain ⟨u, hu⟩ := (S.own p o e).2.some
    rw [h] at hu
    cases hu
theorem Stt.gnone {G : Hp} {M : Mh} {H : Hp} (S : Stt G M H) {p : Addr} (h : H p = none) : G p = none := S.gh.free h
/-- from a state to a later one -/
structure Ext (G : Hp) (M : Mh) (H : Hp) (G' : Hp) (M' : Mh) (H' : Hp) : Prop where
  gs : Same G G'
  st : Stt G' M' H'
  hs : ∀ b o, H b = some o → M b = none → H' b = some o
  fr : ∀ b o, H b = some o → M b = none → G' b = G b
  fm : ∀ b o, H b = some o → M b = none → M' b = none
theorem Ext.refl {G : Hp} {M : Mh} {H : Hp} (S : Stt G M H) : Ext G M H G M H := ⟨Same.refl G, S, fun _ _ h _ => h, fun _ _ _ _ => rfl, fun _ _ _ h => h⟩
theorem Ext.trans {G G1 G2 : Hp} {M M1 M2 : Mh} {H H1 H2 : Hp} (a : Ext G M H G1 M1 H1) (b : Ext G1 M1 H1 G2 M2 H2) : Ext G M H G2 M2 H2 :=
  ⟨a.gs.trans b.gs, b.st, fun c o h m => b.hs c o (a.hs c o h m) (a.fm c o h m), fun c o h m => (b.fr c o (a.hs c o h m) (a.fm c o h m)).trans (a.fr c o h m),
    fun c o h m => b.fm c o (a.hs c o h m) (a.fm c o h m)⟩
/-- fewer are owned -/
def Msub (M' M : Mh) : Prop := ∀ b o, M' b = some o → M b = some o
theorem Msub.refl (M : Mh) : Msub M M := fun _ _ h => h
theorem Msub.trans {A B C : Mh} (a : Msub A B) (b : Msub B C) : Msub A C := fun l o h => b l o (a l o h)
theorem Msub.set {M M' : Mh} {l : Addr} {o : OO} (s : Msub M' M) (h : M' l = none) : Msub M' (mset M l o) := fun b u e => by
  have n : b ≠ l := fun z => by
    subst z
    rw [h] at e
    cases e
  rw [mset_ne n]
  exact s b u e
theorem Msub.new {M : Mh} {l : Addr} {o : OO} (h : M l = none) : Msub M (mset M l o) := Msub.set (Msub.refl M) h
theorem Ext.drop {G G' : Hp} {M M' M2 : Mh} {H H' : Hp} (e : Ext G M H G' M' H') (s : Msub M2 M') : Ext G M H G' M2 H' :=
  ⟨e.gs, ⟨e.st.gh, fun l o h => e.st.own l o (s l o h)⟩, e.hs, e.fr, fun b o h m => by
    cases q : M2 b with
    | none => rfl
    | some u =>
      have z := s b u q
      rw [e.fm b o h m] at z
      cases z⟩
section
variable {G : Hp} {M : Mh} {H : Hp}
/-- a new solid object -/
theorem Ext.solid (S : Stt G M H) {p : Addr} {o : HO} (h : H p = none) : Ext G M H (upd G p o) M (upd H p o) := by
  have hg := S.gnone h
  have sg : Same G (upd G p o) := fun b u e => by
    rw [upd_ne (ne_of_none e hg)]
    exact e
  refine ⟨sg, ⟨fun b u e => ?_, fun l u e => ?_⟩, fun b u e _ => by rw [upd_ne (ne_of_none e h)]; exact e, fun b u e _ => by rw [upd_ne (ne_of_none e h)], fun _ _ _ m => m⟩
  · by_cases z : b = p
    · subst z
      rw [upd_same] at e ⊢
      exact e
    · rw [upd_ne z] at e ⊢
      exact S.gh b u e
  · obtain ⟨h1, h2⟩ := S.own l u e
    obtain ⟨w, hw⟩ := h2.some
    have n : l ≠ p := ne_of_none hw h
    exact ⟨by rw [upd_ne n]; exact h1, h2.mono sg (upd_ne n)⟩
/-- a new owned object -/
theorem Ext.owned (S : Stt G M H) {p : Addr} {u : HO} {o : OO} (h : H p = none) (ho : OwnAt G (upd H p u) p o) : Ext G M H G (mset M p o) (upd H p u) := by
  refine ⟨Same.refl G, ⟨fun b w e => ?_, fun l w e => ?_⟩, fun b w e _ => by rw [upd_ne (ne_of_none e h)]; exact e, fun _ _ _ _ => rfl, fun b w e m => by rw [mset_ne (ne_of_none e h)]; exact m⟩
  · rw [upd_ne (ne_of_none (S.gh b w e) h)]
    exact S.gh b w e
  · by_cases z : l = p
    · subst z
      rw [mset_same] at e
      cases e
      exact ⟨S.gnone h, ho⟩
    · rw [mset_ne z] at e
      obtain ⟨h1, h2⟩ := S.own l w e
      exact ⟨h1, h2.mono (Same.refl G) (upd_ne z)⟩
/-- an owned object is changed -/
theorem Ext.write (S : Stt G M H) {p : Addr} {w : OO} {u : HO} {o : OO} (h : M p = some w) (ho : OwnAt G (upd H p u) p o) : Ext G M H G (mset M p o) (upd H p u) := by
  have hg := (S.own p w h).1
  have np : ∀ b, M b = none → b ≠ p := fun b e z => by
    subst z
    rw [h] at e
    cases e
  refine ⟨Same.refl G, ⟨fun b q e => ?_, fun l q e => ?_⟩, fun b q e m => by rw [upd_ne (np b m)]; exact e, fun _ _ _ _ => rfl, fun b q e m => by rw [mset_ne (np b m)]; exact m⟩
  · rw [upd_ne (ne_of_none e hg)]
    exact S.gh b q e
  · by_cases z : l = p
    · subst z
      rw [mset_same] at e
      cases e
      exact ⟨hg, ho⟩
    · rw [mset_ne z] at e
      obtain ⟨h1, h2⟩ := S.own l q e
      exact ⟨h1, h2.mono (Same.refl G) (upd_ne z)⟩
/-- an owned object becomes solid -/
theorem Ext.seal (S : Stt G M H) {p : Addr} {w : OO} {u : HO} (h : M p = some w) (hu : H p = some u) : Ext G M H (upd G p u) (mdel M p) H := by
  have hg := (S.own p w h).1
  have sg : Same G (upd G p u) := fun b q e => by
    rw [upd_ne (ne_of_none e hg)]
    exact e
  have np : ∀ b, M b = none → b ≠ p := fun b e z => by
    subst z
    rw [h] at e
    cases e
  refine ⟨sg, ⟨fun b q e => ?_, fun l q e => ?_⟩, fun b q e m => e, fun b q e m => upd_ne (np b m), fun b q e m => by rw [mdel_ne (np b m)]; exact m⟩
  · by_cases z : b = p
    · subst z
      rw [upd_same] at e
      cases e
      exact hu
    · rw [upd_ne z] at e
      exact S.gh b q e
  · by_cases z : l = p
    · subst z
      rw [mdel_same] at e
      cases e
    · rw [mdel_ne z] at e
      obtain ⟨h1, h2⟩ := S.own l q e
      exact ⟨by rw [upd_ne z]; exact h1, h2.mono sg rfl⟩
/-- what a tree is seen as: solid, or owned -/
def view (M : Mh) : T → Option OO
  | .adr a => M a
  | .lst ts => some (.lst ts)
  | .tup ts => some (.tup ts)
  | .dic kvs => some (.dic .so kvs)
  | .ins C fs => some (.ins C fs)
  | _ => none
theorem view_lst (S : Stt G M H) {t : T} {v : V} {ts : List T} (r : Rep G t v) (h : view M t = some (.lst ts)) : ∃ a vs, v = .ref a ∧ H a = some (.lst vs) ∧ Reps G ts vs := by
  cases t with
  | lst xs =>
    cases h
    unfold Rep at r
    obtain ⟨a, vs, e, g, q⟩ := r
    exact ⟨a, vs, e, S.gh _ _ g, q⟩
  | adr a =>
    obtain ⟨vs, h2, q⟩ := (S.own a _ h).2
    unfold Rep at r
    exact ⟨a, vs, r, h2, q⟩
  | _ => cases h
theorem view_tup (S : Stt G M H) {t : T} {v : V} {ts : List T} (r : Rep G t v) (h : view M t = some (.tup ts)) : ∃ a vs, v = .ref a ∧ H a = some (.tup vs) ∧ Reps G ts vs := by
  cases t with
  | tup xs =>
    cases h
    unfold Rep at r
    obtain ⟨a, vs, e, g, q⟩ := r
    exact ⟨a, vs, e, S.gh _ _ g, q⟩
  | adr a =>
    obtain ⟨vs, h2, q⟩ := (S.own a _ h).2
    unfold Rep at r
    exact ⟨a, vs, r, h2, q⟩
  | _ => cases h
theorem view_ins (S : Stt G M H) {t : T} {v : V} {C : Addr} {fs : List (Str × T)} (r : Rep G t v) (h : view M t = some (.ins C fs)) : ∃ a dx vs, v = .ref a ∧ H a = some (.ins C dx vs) ∧ RepF G fs vs := by
  cases t with
  | ins D xs =>
    cases h
    unfold Rep at r
    obtain ⟨a, dx, vs, e, g, q⟩ := r
    exact ⟨a, dx, vs, e, S.gh _ _ g, q⟩
  | adr a =>
    obtain ⟨dx, vs, h2, q⟩ := (S.own a _ h).2
    unfold Rep at r
    exact ⟨a, dx, vs, r, h2, q⟩
  | _ => cases h
theorem view_dic (S : Stt G M H) {t : T} {v : V} {lk : Lk} {kvs : List (Key × T)} (r : Rep G t v) (h : view M t = some (.dic lk kvs)) : ∃ a vs, v = .ref a ∧ Rd H a (.dK vs) ∧ RepK G kvs vs := by
  cases t with
  | dic xs =>
    cases h
    unfold Rep at r
    obtain ⟨a, vs, e, g, q⟩ := r
    exact ⟨a, vs, e, .inl (S.gh _ _ g), q⟩
  | adr a =>
    unfold Rep at r
    cases lk with
    | un =>
      obtain ⟨vs, h2, q⟩ := (S.own a _ h).2
      exact ⟨a, vs, r, .inl h2, q⟩
    | so => exact (S.own a _ h).2.elim
    | lk o vs =>
      obtain ⟨h2, q⟩ := (S.own a _ h).2
      exact ⟨a, vs, r, .inr ⟨o, h2⟩, q⟩
  | _ => cases h
end

/-! ### slots -/
abbrev TSt := List (Option T)
def RepS (G : Hp) : TSt → St → Prop
  | [], σ => σ = []
  | o :: s, σ => ∃ x r, σ = x :: r ∧ (∀ t, o = some t → ∃ v, x = some v ∧ Rep G t v) ∧ RepS G s r
theorem RepS.mono {G G' : Hp} (h : Same G G') : ∀ {s : TSt} {σ : St}, RepS G s σ → RepS G' s σ
  | [], _, r => r
  | o :: s, σ, ⟨x, q, e, f, r⟩ => ⟨x, q, e, fun t z => by
      obtain ⟨v, e1, e2⟩ := f t z
      exact ⟨v, e1, e2.mono h⟩, RepS.mono h r⟩
theorem RepS.get {G : Hp} : ∀ {s : TSt} {σ : St} {i : Nat} {t : T}, RepS G s σ → s[i]? = some (some t) → ∃ v, σ[i]? = some (some v) ∧ Rep G t v
  | [], _, i, _, _, e => by simp at e
  | o :: s, σ, i, t, ⟨x, q, e1, f, r⟩, e => by
    subst e1
    cases i with
    | zero =>
      have e' : o = some t := by simpa using e
      obtain ⟨v, h1, h2⟩ := f t e'
      exact ⟨v, by rw [h1]; rfl, h2⟩
    | succ i =>
      obtain ⟨v, h1, h2⟩ := RepS.get (i := i) r (by simpa using e)
      exact ⟨v, by simpa using h1, h2⟩
theorem RepS.set {G : Hp} {t : T} {v : V} (h : Rep G t v) : ∀ {s : TSt} {σ : St} (i : Nat), RepS G s σ → RepS G (s.set i (some t)) (σ.set i (some v))
  | [], σ, i, r => by
    have e : σ = [] := r
    subst e
    exact rfl
  | o :: s, σ, i, ⟨x, q, e1, f, r⟩ => by
    subst e1
    cases i with
    | zero => exact ⟨some v, q, rfl, fun t' z => ⟨v, rfl, by cases z; exact h⟩, r⟩
    | succ i => exact ⟨x, q.set i (some v), rfl, f, RepS.set h i r⟩
theorem RepS.wipe1 {G : Hp} : ∀ {s : TSt} {σ : St} (i : Nat), RepS G s σ → RepS G (s.set i none) (σ.set i none)
  | [], σ, i, r => by
    have e : σ = [] := r
    subst e
    exact rfl
  | o :: s, σ, i, ⟨x, q, e1, f, r⟩ => by
    subst e1
    cases i with
    | zero => exact ⟨none, q, rfl, fun t' z => (nomatch z), r⟩
    | succ i => exact ⟨x, q.set i none, rfl, f, RepS.wipe1 i r⟩
def twipe (s : TSt) : List Nat → TSt
  | [] => s
  | v :: vs => (twipe s vs).set v none
theorem RepS.wipe {G : Hp} {s : TSt} {σ : St} (r : RepS G s σ) : ∀ vs : List Nat, RepS G (twipe s vs) (L2.wipe σ vs)
  | [] => r
  | v :: vs => by
    unfold twipe L2.wipe
    exact RepS.wipe1 v (RepS.wipe r vs)
theorem RepS.start {G : Hp} : ∀ {ts : List T} {vs : List V} (n : Nat), Reps G ts vs → RepS G (ts.map some ++ List.replicate n none) (vs.map some ++ List.replicate n none)
  | [], vs, n, r => by
    unfold Reps at r
    subst r
    induction n with
    | zero => exact rfl
    | succ n ih => exact ⟨none, _, rfl, fun t z => (nomatch z), ih⟩
  | t :: ts, vs, n, r => by
    unfold Reps at r
    obtain ⟨v, q, rfl, r1, r2⟩ := r
    exact ⟨some v, _, rfl, fun t' z => ⟨v, rfl, by cases z; exact r1⟩, RepS.start n r2⟩

/-! ### readings over trees -/
abbrev TQ := T → Mh → Prop
abbrev WE := TSt → Mh → TQ → Prop
abbrev WT := TSt → Mh → (Bool → Mh → Prop) → Prop
abbrev WA := TSt → Mh → (List T → Mh → Prop) → Prop
structure EndsT where
  nx : TSt → Mh → Prop
  rt : TQ
  bk : TSt → Mh → Prop := fun _ _ => False
  ct : TSt → Mh → Prop := fun _ _ => False
abbrev WS := EndsT → TSt → Mh → Prop
/-- what is wanted of trees, of values -/
def QR (G : Hp) (M : Mh) (H : Hp) (Q : TQ) (Qv : VK) : Prop := ∀ r M' G' H' v, Q r M' → Ext G M H G' M' H' → Rep G' r v → Qv v H'
def lE (w : WE) : TE := fun σ H Q => ∃ G M s Qt, Stt G M H ∧ RepS G s σ ∧ w s M Qt ∧ QR G M H Qt Q
def lT (w : WT) : TT := fun σ H Q => ∃ G M s Qt, Stt G M H ∧ RepS G s σ ∧ w s M Qt ∧ ∀ b M' G' H', Qt b M' → Ext G M H G' M' H' → Q b H'
def lA (w : WA) : TA := fun σ H Q => ∃ G M s Qt, Stt G M H ∧ RepS G s σ ∧ w s M Qt ∧ ∀ ts M' G' H' vs, Qt ts M' → Ext G M H G' M' H' → Reps G' ts vs → Q vs H'
structure EndsR (G : Hp) (M : Mh) (H : Hp) (DT : EndsT) (D : Ends) : Prop where
  nx : ∀ s' M' G' H' σ', DT.nx s' M' → Ext G M H G' M' H' → RepS G' s' σ' → D.nx σ' H'
  rt : ∀ r M' G' H' v, DT.rt r M' → Ext G M H G' M' H' → Rep G' r v → D.rt v H'
  bk : ∀ s' M' G' H' σ', DT.bk s' M' → Ext G M H G' M' H' → RepS G' s' σ' → D.bk σ' H'
  ct : ∀ s' M' G' H' σ', DT.ct s' M' → Ext G M H G' M' H' → RepS G' s' σ' → D.ct σ' H'
theorem EndsR.later {G G1 : Hp} {M M1 : Mh} {H H1 : Hp} {DT : EndsT} {D : Ends} (R : EndsR G M H DT D) (e : Ext G M H G1 M1 H1) : EndsR G1 M1 H1 DT D :=
  ⟨fun s' M' G' H' σ' q x r => R.nx s' M' G' H' σ' q (e.trans x) r, fun r M' G' H' v q x z => R.rt r M' G' H' v q (e.trans x) z,
    fun s' M' G' H' σ' q x r => R.bk s' M' G' H' σ' q (e.trans x) r, fun s' M' G' H' σ' q x r => R.ct s' M' G' H' σ' q (e.trans x) r⟩
def lS (w : WS) : TS := fun D σ H => ∃ G M s DT, Stt G M H ∧ RepS G s σ ∧ w DT s M ∧ EndsR G M H DT D

structure QE (X : Cx) (e : Expr) (w : WE) : Prop where
  pe : PE X e (lE w)
  mono : ∀ s M Q Q', (∀ r M', Q r M' → Q' r M') → w s M Q → w s M Q'
structure QT (X : Cx) (e : Expr) (w : WT) : Prop where
  pt : PT X e (lT w)
  mono : ∀ s M Q Q', (∀ r M', Q r M' → Q' r M') → w s M Q → w s M Q'
structure QW (X : Cx) (e : Expr) (w : WT) : Prop where
  pw : PW X e (lT w)
  mono : ∀ s M Q Q', (∀ r M', Q r M' → Q' r M') → w s M Q → w s M Q'
structure QA (X : Cx) (es : List Expr) (w : WA) : Prop where
  pa : PA X es (lA w)
  mono : ∀ s M Q Q', (∀ r M', Q r M' → Q' r M') → w s M Q → w s M Q'
structure EndsI (D D' : EndsT) : Prop where
  nx : ∀ s M, D.nx s M → D'.nx s M
  rt : ∀ r M, D.rt r M → D'.rt r M
  bk : ∀ s M, D.bk s M → D'.bk s M
  ct : ∀ s M, D.ct s M → D'.ct s M
structure QS (X : Cx) (st : Stmt) (w : WS) : Prop where
  ps : PS X st (lS w)
  mono : ∀ D D' s M, EndsI D D' → w D s M → w D' s M
structure QSs (X : Cx) (st : List Stmt) (w : WS) : Prop where
  ps : PSs X st (lS w)
  mono : ∀ D D' s M, EndsI D D' → w D s M → w D' s M

theorem PEw {X : Cx} {e : Expr} {t t' : TE} (h : PE X e t) (i : ∀ σ H Q, t' σ H Q → t σ H Q) : PE X e t' := ⟨fun pins s σ H Q I q => h.run pins s σ H Q I (i σ H Q q)⟩
theorem PTw' {X : Cx} {e : Expr} {t t' : TT} (h : PT X e t) (i : ∀ σ H Q, t' σ H Q → t σ H Q) : PT X e t' := ⟨fun pins s σ H Q I q => h.run pins s σ H Q I (i σ H Q q)⟩
theorem PWw {X : Cx} {e : Expr} {t t' : TT} (h : PW X e t) (i : ∀ σ H Q, t' σ H Q → t σ H Q) : PW X e t' := ⟨fun wh pins s σ H Q I q => h.run wh pins s σ H Q I (i σ H Q q)⟩
theorem PAw {X : Cx} {e : List Expr} {t t' : TA} (h : PA X e t) (i : ∀ σ H Q, t' σ H Q → t σ H Q) : PA X e t' := ⟨fun p pins s σ H Q I q => h.run p pins s σ H Q I (i σ H Q q)⟩
theorem PSw {X : Cx} {e : Stmt} {t t' : TS} (h : PS X e t) (i : ∀ D σ H, t' D σ H → t D σ H) : PS X e t' := ⟨fun pins s σ H D I q => h.run pins s σ H D I (i D σ H q)⟩
theorem PSsw {X : Cx} {e : List Stmt} {t t' : TS} (h : PSs X e t) (i : ∀ D σ H, t' D σ H → t D σ H) : PSs X e t' := ⟨fun pins s σ H D I q => h.run pins s σ H D I (i D σ H q)⟩
end Tr

set_option Elab.async false
set_option linter.all false
set_option maxRecDepth 100000
set_option maxHeartbeats 4000000
namespace Tr
open PySem L2
section
variable {X : Cx}
/-! ### names, constants -/
def wVar (i : Nat) : WE := fun s M Q => match s[i]? with
  | some (some t) => Q t M
  | _ => False
def wC (t : T) : WE := fun _ M Q => Q t M
theorem qv (i : Nat) {x : Str} {pos : Pos} (hN : X.N[i]? = some x := by rfl) (hv : Vis X.env.scope x := by first | exact Or.inl rfl | exact Or.inr (Or.inl rfl) | exact Or.inr (Or.inr rfl)) (hd : (x == ("__debug__" : Str)) = false := by decide)
    (hcd : (x == ("__classdict__" : Str)) = false := by decide) : QE X (.Name x pos) (wVar i) := by
  refine ⟨PEw (pe_var hN hv hd hcd) fun σ H Q ⟨G, M, s, Qt, S, R, w, k⟩ => ?_, fun s M Q Q' h w => ?_⟩
  · unfold wVar at w
    cases e : s[i]? with
    | none =>
      rw [e] at w
      cases w
    | some o =>
      rw [e] at w
      cases o with
      | none => cases w
      | some t =>
        obtain ⟨v, h1, h2⟩ := R.get e
        exact ⟨v, h1, k t M G H v w (Ext.refl S) h2⟩
  · unfold wVar at w ⊢
    cases e : s[i]? with
    | none =>
      rw [e] at w
      cases w
    | some o =>
      rw [e] at w
      cases o with
      | none => cases w
      | some t => exact h _ _ w
theorem qe_c {e : Expr} {v : V} {t : T} (h : PE X e (tC v)) (r : ∀ G, Rep G t v) : QE X e (wC t) :=
  ⟨PEw h fun σ H Q ⟨G, M, s, Qt, S, R, w, k⟩ => k t M G H v w (Ext.refl S) (r G), fun s M Q Q' h w => h _ _ w⟩
theorem qe_int {i : Int} {j : Nat} {pos : Pos} : QE X (.Constant (.int i) j pos) (wC (.int i)) := qe_c pe_int fun G => by unfold Rep; rfl
theorem qe_bl {b : Bool} {j : Nat} {pos : Pos} : QE X (.Constant (.bool b) j pos) (wC (.bl b)) := qe_c pe_bl fun G => by unfold Rep; rfl
theorem qe_non {j : Nat} {pos : Pos} : QE X (.Constant .none j pos) (wC .non) := qe_c pe_non fun G => by unfold Rep; rfl
theorem qe_str {x : Str} {j : Nat} {pos : Pos} : QE X (.Constant (.str x) j pos) (wC (.str x)) := qe_c pe_str fun G => by unfold Rep; rfl
/-- a module's int, text, class -/
theorem qe_gint {x : Str} {i : Int} {pos : Pos} (hm : ∃ t, X.mg x = some (.int i t)) (hg : Gl X x := by rfl) (hd : (x == ("__debug__" : Str)) = false := by decide) : QE X (.Name x pos) (wC (.int i)) := by
  obtain ⟨t, hm⟩ := hm
  exact qe_c (pe_glob (v := .int i) hg hm ⟨t, rfl⟩ hd) fun G => by unfold Rep; rfl
theorem qe_gstr {x z : Str} {pos : Pos} (hm : ∃ t, X.mg x = some (.str z t)) (hg : Gl X x := by rfl) (hd : (x == ("__debug__" : Str)) = false := by decide) : QE X (.Name x pos) (wC (.str z)) := by
  obtain ⟨t, hm⟩ := hm
  exact qe_c (pe_glob (v := .str z) hg hm ⟨t, rfl⟩ hd) fun G => by unfold Rep; rfl
theorem qe_gref {x : Str} {a : Addr} {pos : Pos} (hm : X.mg x = some (.ref a)) (hg : Gl X x := by rfl) (hd : (x == ("__debug__" : Str)) = false := by decide) : QE X (.Name x pos) (wC (.adr a)) :=
  qe_c (pe_glob (v := .ref a) hg hm rfl hd) fun G => by unfold Rep; rfl
/-- a built-in class as a value -/
theorem qe_bty {x : Str} {n : String} {pos : Pos} (hm : X.mg x = none) (hv : bootBuiltins x = some (.type n)) (hg : Gl X x := by rfl) (hn : x ≠ "__name__" := by decide) (hd : (x == ("__debug__" : Str)) = false := by decide) : QE X (.Name x pos) (wC (.ty n)) :=
  qe_c (pe_bltn (v := .ty n) hg hm hv rfl hn hd) fun G => by unfold Rep; rfl

/-! ### sealing: an owned object becomes solid -/
/-- what the sealed object is as a tree -/
def sealT : OO → T
  | .lst xs => .lst xs
  | .tup xs => .tup xs
  | .dic _ kvs => .dic kvs
  | .ins C fs => .ins C fs
def sealO (Q : TQ) (M : Mh) (l : Addr) : Option OO → Prop
  | some (.lst xs) => Q (.lst xs) (mdel M l)
  | some (.ins C fs) => Q (.ins C fs) (mdel M l)
  | some (.dic .un kvs) => Q (.dic kvs) (mdel M l)
  | _ => False
def sealW (t : T) (M : Mh) (Q : TQ) : Prop := match t with
  | .adr l => sealO Q M l (M l)
  | _ => False
def wSeal (w : WE) : WE := fun s M Q => w s M fun t M1 => sealW t M1 Q
theorem seal_at {G H : Hp} {M : Mh} (S : Stt G M H) {l : Addr} {Q : TQ} {Qv : VK} (k : QR G M H Q Qv) (w : sealO Q M l (M l)) : Qv (.ref l) H := by
  cases e : M l with
  | none =>
    rw [e] at w
    cases w
  | some o =>
    rw [e] at w
    obtain ⟨hg, ho⟩ := S.own l o e
    cases o with
    | lst xs =>
      obtain ⟨vs, hh, r⟩ := ho
      have x := Ext.seal S e hh
      exact k _ _ _ _ _ w x (by unfold Rep; exact ⟨l, vs, rfl, upd_same, r.mono x.gs⟩)
    | ins C fs =>
      obtain ⟨dx, vs, hh, r⟩ := ho
      have x := Ext.seal S e hh
      exact k _ _ _ _ _ w x (by unfold Rep; exact ⟨l, dx, vs, rfl, upd_same, r.mono x.gs⟩)
    | dic lk kvs =>
      cases lk with
      | so => cases w
      | lk o vs => cases w
      | un =>
        obtain ⟨vs, hh, r⟩ := ho
        have x := Ext.seal S e hh
        exact k _ _ _ _ _ w x (by unfold Rep; exact ⟨l, vs, rfl, upd_same, r.mono x.gs⟩)
    | tup xs => cases w
theorem sealO_mono {M : Mh} {l : Addr} {Q Q' : TQ} (h : ∀ r M', Q r M' → Q' r M') : ∀ {o : Option OO}, sealO Q M l o → sealO Q' M l o
  | none, w => w
  | some (.lst _), w => h _ _ w
  | some (.ins _ _), w => h _ _ w
  | some (.tup _), w => w
  | some (.dic .so _), w => w
  | some (.dic (.lk _ _) _), w => w
  | some (.dic .un _), w => h _ _ w
theorem seal_mono {M : Mh} {t : T} {Q Q' : TQ} (h : ∀ r M', Q r M' → Q' r M') (w : sealW t M Q) : sealW t M Q' := by
  cases t with
  | adr l => exact sealO_mono h (show sealO Q M l (M l) from w)
  | _ => exact w
theorem qe_seal {e : Expr} {w : WE} (q : QE X e w) : QE X e (wSeal w) := by
  refine ⟨PEw q.pe fun σ H Q ⟨G, M, s, Qt, S, R, z, k⟩ => ⟨G, M, s, _, S, R, z, fun r M1 G1 H1 v q1 x1 r1 => ?_⟩, fun s M Q Q' h z => q.mono s M _ _ (fun t M1 w1 => seal_mono h w1) z⟩
  cases r with
  | adr l =>
    unfold Rep at r1
    rw [r1]
    exact seal_at x1.st (fun r M' G' H' v q x rr => k r M' G' H' v q (x1.trans x) rr) (show sealO Qt M1 l (M1 l) from q1)
  | _ => cases q1

/-! ### operators -/
structure OpT (X : Cx) (f : Value → Value → Sem Value) (TR : T → T → Mh → TQ → Prop) : Prop where
  ex : ∃ r : R2, OpR X f r ∧ ∀ G M H x y xv yv Q Qv, Stt G M H → Rep G x xv → Rep G y yv → TR x y M Q → QR G M H Q Qv → r xv yv H Qv
  mono : ∀ x y M Q Q', (∀ r M', Q r M' → Q' r M') → TR x y M Q → TR x y M Q'
def wOp (TR : T → T → Mh → TQ → Prop) (wa wb : WE) : WE := fun s M Q => wa s M fun x M1 => wb s M1 fun y M2 => TR x y M2 Q
theorem wOp_mono {TR : T → T → Mh → TQ → Prop} {wa wb : WE} (hr : ∀ x y M Q Q', (∀ r M', Q r M' → Q' r M') → TR x y M Q → TR x y M Q') (ha : ∀ s M Q Q', (∀ r M', Q r M' → Q' r M') → wa s M Q → wa s M Q')
    (hb : ∀ s M Q Q', (∀ r M', Q r M' → Q' r M') → wb s M Q → wb s M Q') : ∀ s M Q Q', (∀ r M', Q r M' → Q' r M') → wOp TR wa wb s M Q → wOp TR wa wb s M Q' :=
  fun s M Q Q' h w => ha s M _ _ (fun x M1 w1 => hb s M1 _ _ (fun y M2 w2 => hr x y M2 Q Q' h w2) w1) w
theorem op_read {TR : T → T → Mh → TQ → Prop} {wa wb : WE} {r : R2} (hr : ∀ G M H x y xv yv Q Qv, Stt G M H → Rep G x xv → Rep G y yv → TR x y M Q → QR G M H Q Qv → r xv yv H Qv) (σ : St) (H : Hp) (Q : VK) (h : lE (wOp TR wa wb) σ H Q) :
    tOp r (lE wa) (lE wb) σ H Q := by
  obtain ⟨G, M, s, Qt, S, R, w, k⟩ := h
  refine ⟨G, M, s, _, S, R, w, fun x M1 G1 H1 xv w1 e1 rx => ?_⟩
  refine ⟨G1, M1, s, _, e1.st, R.mono e1.gs, w1, fun y M2 G2 H2 yv w2 e2 ry => ?_⟩
  exact hr G2 M2 H2 x y xv yv Qt Q e2.st (rx.mono e2.gs) ry w2 fun t M' G' H' v q e rt => k t M' G' H' v q ((e1.trans e2).trans e) rt
theorem qe_op {op : Operator} {TR : T → T → Mh → TQ → Prop} {a b : Expr} {wa wb : WE} {pos : Pos} (ho : OpT X (binaryOp op) TR) (ha : QE X a wa) (hb : QE X b wb) : QE X (.BinOp a op b pos) (wOp TR wa wb) := by
  obtain ⟨r, h1, h2⟩ := ho.ex
  exact ⟨PEw (pe_op h1 ha.pe hb.pe) (op_read h2), wOp_mono ho.mono ha.mono hb.mono⟩
theorem qe_cmp {op : CmpOp} {TR : T → T → Mh → TQ → Prop} {a b : Expr} {wa wb : WE} {pos : Pos} (ho : OpT X (compareOp op) TR) (ha : QE X a wa) (hb : QE X b wb) (hm : behindInMarks op b = false := by first | exact nomark _ (by decide) (by decide) | rfl) :
    QE X (.Compare a [op] [b] pos) (wOp TR wa wb) := by
  obtain ⟨r, h1, h2⟩ := ho.ex
  exact ⟨PEw (pe_cmpR h1 ha.pe hb.pe hm) (op_read h2), wOp_mono ho.mono ha.mono hb.mono⟩
/-- a value as a test -/
def wTest (w : WE) : WT := fun s M Q => w s M fun x M1 => match x with
  | .bl k => Q k M1
  | _ => False
theorem wTest_mono {w : WE} (hw : ∀ s M Q Q', (∀ r M', Q r M' → Q' r M') → w s M Q → w s M Q') : ∀ s M Q Q', (∀ r M', Q r M' → Q' r M') → wTest w s M Q → wTest w s M Q' := fun s M Q Q' h z => hw s M _ _ (fun x M1 q => by
  cases x with
  | bl k => exact h _ _ q
  | _ => exact q) z
theorem test_read {w : WE} (σ : St) (H : Hp) (Q : Bool → Hp → Prop) (h : lT (wTest w) σ H Q) : lE w σ H fun x H1 => ∃ c, x = .bl c ∧ Q c H1 := by
  obtain ⟨G, M, s, Qt, S, R, z, k⟩ := h
  refine ⟨G, M, s, _, S, R, z, fun x M1 G1 H1 xv w1 e1 rx => ?_⟩
  cases x with
  | bl c =>
    unfold Rep at rx
    exact ⟨c, rx, k c M1 G1 H1 w1 e1⟩
  | _ => cases w1
theorem qt_cmp {op : CmpOp} {TR : T → T → Mh → TQ → Prop} {a b : Expr} {wa wb : WE} {pos : Pos} (ho : OpT X (compareOp op) TR) (ha : QE X a wa) (hb : QE X b wb) (hm : behindInMarks op b = false := by first | exact nomark _ (by decide) (by decide) | rfl) :
    QT X (.Compare a [op] [b] pos) (wTest (wOp TR wa wb)) := by
  obtain ⟨r, h1, h2⟩ := ho.ex
  refine ⟨PTw' (pt_cmpR h1 ha.pe hb.pe hm) fun σ H Q h => ?_, wTest_mono (wOp_mono ho.mono ha.mono hb.mono)⟩
  exact op_read h2 σ H _ (test_read σ H Q h)
/-- a name, a call .. whose value is a bool, as a test -/
theorem qt_val {e : Expr} {w : WE} (h : QE X e w) (he : ∀ whole, isTrue e X.env whole = (do let v ← whole; standAt e.pos; holding [v] (truthy v)) := by intro _; rfl) : QT X e (wTest w) :=
  ⟨PTw' (pt_val h.pe he) fun σ H Q z => test_read σ H Q z, wTest_mono h.mono⟩
def wNot (w : WT) : WT := fun s M Q => w s M fun b M1 => Q (!b) M1
def wAnd (w u : WT) : WT := fun s M Q => w s M fun b M1 => (b = true → u s M1 Q) ∧ (b = false → Q false M1)
def wOr (w u : WT) : WT := fun s M Q => w s M fun b M1 => (b = true → Q true M1) ∧ (b = false → u s M1 Q)
theorem qt_not {a : Expr} {w : WT} {pos : Pos} (h : QT X a w) : QT X (.UnaryOp .Not a pos) (wNot w) := by
  refine ⟨PTw' (pt_not h.pt) fun σ H Q ⟨G, M, s, Qt, S, R, z, k⟩ => ⟨G, M, s, _, S, R, z, fun b M1 G1 H1 q e => k (!b) M1 G1 H1 q e⟩, fun s M Q Q' i z => h.mono s M _ _ (fun b M1 q => i _ _ q) z⟩
theorem and_read {w u : WT} (σ : St) (H : Hp) (Q : Bool → Hp → Prop) (h : lT (wAnd w u) σ H Q) : tAnd (lT w) (lT u) σ H Q := by
  obtain ⟨G, M, s, Qt, S, R, z, k⟩ := h
  refine ⟨G, M, s, _, S, R, z, fun b M1 G1 H1 q e => ?_⟩
  cases b with
  | true =>
    rw [if_pos rfl]
    exact ⟨G1, M1, s, Qt, e.st, R.mono e.gs, q.1 rfl, fun b M2 G2 H2 q2 e2 => k b M2 G2 H2 q2 (e.trans e2)⟩
  | false =>
    rw [if_neg Bool.false_ne_true]
    exact k false M1 G1 H1 (q.2 rfl) e
theorem or_read {w u : WT} (σ : St) (H : Hp) (Q : Bool → Hp → Prop) (h : lT (wOr w u) σ H Q) : tOr (lT w) (lT u) σ H Q := by
  obtain ⟨G, M, s, Qt, S, R, z, k⟩ := h
  refine ⟨G, M, s, _, S, R, z, fun b M1 G1 H1 q e => ?_⟩
  cases b with
  | true =>
    rw [if_pos rfl]
    exact k true M1 G1 H1 (q.1 rfl) e
  | false =>
    rw [if_neg Bool.false_ne_true]
    exact ⟨G1, M1, s, Qt, e.st, R.mono e.gs, q.2 rfl, fun b M2 G2 H2 q2 e2 => k b M2 G2 H2 q2 (e.trans e2)⟩
theorem qw_and {a b : Expr} {rest : List Expr} {w u : WT} {pos : Pos} (ha : QT X a w) (hb : QW X (.BoolOp .And (b :: rest) pos) u) : QW X (.BoolOp .And (a :: b :: rest) pos) (wAnd w u) :=
  ⟨PWw (pw_and ha.pt hb.pw) and_read, fun s M Q Q' i z => ha.mono s M _ _ (fun b M1 q => ⟨fun e => hb.mono s M1 _ _ i (q.1 e), fun e => i _ _ (q.2 e)⟩) z⟩
theorem qw_or {a b : Expr} {rest : List Expr} {w u : WT} {pos : Pos} (ha : QT X a w) (hb : QW X (.BoolOp .Or (b :: rest) pos) u) : QW X (.BoolOp .Or (a :: b :: rest) pos) (wOr w u) :=
  ⟨PWw (pw_or ha.pt hb.pw) or_read, fun s M Q Q' i z => ha.mono s M _ _ (fun b M1 q => ⟨fun e => i _ _ (q.1 e), fun e => hb.mono s M1 _ _ i (q.2 e)⟩) z⟩
theorem qw_and1 {a : Expr} {w : WT} {pos : Pos} (ha : QT X a w) : QW X (.BoolOp .And [a] pos) w := ⟨pw_and1 ha.pt, ha.mono⟩
theorem qw_or1 {a : Expr} {w : WT} {pos : Pos} (ha : QT X a w) : QW X (.BoolOp .Or [a] pos) w := ⟨pw_or1 ha.pt, ha.mono⟩
theorem QW.qt {e : Expr} {w : WT} (h : QW X e w) : QT X e w := ⟨h.pw.pt, h.mono⟩
/-! the same as values (bools) -/
def wNotV (w : WE) : WE := fun s M Q => w s M fun x M1 => match x with
  | .bl b => Q (.bl (!b)) M1
  | _ => False
def wAndV (w u : WE) : WE := fun s M Q => w s M fun x M1 => match x with
  | .bl b => (b = true → u s M1 Q) ∧ (b = false → Q (.bl false) M1)
  | _ => False
def wOrV (w u : WE) : WE := fun s M Q => w s M fun x M1 => match x with
  | .bl b => (b = true → Q (.bl true) M1) ∧ (b = false → u s M1 Q)
  | _ => False
theorem qe_not {a : Expr} {w : WE} {pos : Pos} (h : QE X a w) : QE X (.UnaryOp .Not a pos) (wNotV w) := by
  refine ⟨PEw (pe_not h.pe) fun σ H Q ⟨G, M, s, Qt, S, R, z, k⟩ => ⟨G, M, s, _, S, R, z, fun x M1 G1 H1 xv q e rx => ?_⟩, fun s M Q Q' i z => h.mono s M _ _ (fun x M1 q => ?_) z⟩
  · cases x with
    | bl b =>
      unfold Rep at rx
      exact ⟨b, rx, k _ M1 G1 H1 _ q e (by unfold Rep; rfl)⟩
    | _ => cases q
  · cases x with
    | bl b => exact i _ _ q
    | _ => exact q
theorem qe_one {op : BoolOp} {a : Expr} {w : WE} {pos : Pos} (h : QE X a w) : QE X (.BoolOp op [a] pos) w := ⟨pe_one h.pe, h.mono⟩
theorem qe_and {a b : Expr} {rest : List Expr} {w u : WE} {pos : Pos} (ha : QE X a w) (hb : QE X (.BoolOp .And (b :: rest) pos) u) : QE X (.BoolOp .And (a :: b :: rest) pos) (wAndV w u) := by
  refine ⟨PEw (pe_and ha.pe hb.pe) fun σ H Q ⟨G, M, s, Qt, S, R, z, k⟩ => ⟨G, M, s, _, S, R, z, fun x M1 G1 H1 xv q e rx => ?_⟩, fun s M Q Q' i z => ha.mono s M _ _ (fun x M1 q => ?_) z⟩
  · cases x with
    | bl b =>
      unfold Rep at rx
      refine ⟨b, rx, ?_⟩
      cases b with
      | true =>
        rw [if_pos rfl]
        exact ⟨G1, M1, s, Qt, e.st, R.mono e.gs, q.1 rfl, fun t M2 G2 H2 v q2 e2 r2 => k t M2 G2 H2 v q2 (e.trans e2) r2⟩
      | false =>
        rw [if_neg Bool.false_ne_true]
        exact k _ M1 G1 H1 _ (q.2 rfl) e (by unfold Rep; rfl)
    | _ => cases q
  · cases x with
    | bl b => exact ⟨fun e => hb.mono s M1 _ _ i (q.1 e), fun e => i _ _ (q.2 e)⟩
    | _ => exact q
theorem qe_or {a b : Expr} {rest : List Expr} {w u : WE} {pos : Pos} (ha : QE X a w) (hb : QE X (.BoolOp .Or (b :: rest) pos) u) : QE X (.BoolOp .Or (a :: b :: rest) pos) (wOrV w u) := by
  refine ⟨PEw (pe_or ha.pe hb.pe) fun σ H Q ⟨G, M, s, Qt, S, R, z, k⟩ => ⟨G, M, s, _, S, R, z, fun x M1 G1 H1 xv q e rx => ?_⟩, fun s M Q Q' i z => ha.mono s M _ _ (fun x M1 q => ?_) z⟩
  · cases x with
    | bl b =>
      unfold Rep at rx
      refine ⟨b, rx, ?_⟩
      cases b with
      | true =>
        rw [if_pos rfl]
        exact k _ M1 G1 H1 _ (q.1 rfl) e (by unfold Rep; rfl)
      | false =>
        rw [if_neg Bool.false_ne_true]
        exact ⟨G1, M1, s, Qt, e.st, R.mono e.gs, q.2 rfl, fun t M2 G2 H2 v q2 e2 r2 => k t M2 G2 H2 v q2 (e.trans e2) r2⟩
    | _ => cases q
  · cases x with
    | bl b => exact ⟨fun e => i _ _ (q.1 e), fun e => hb.mono s M1 _ _ i (q.2 e)⟩
    | _ => exact q
/-- a if t else b -/
def wIfE (c : WT) (a b : WE) : WE := fun s M Q => c s M fun k M1 => (k = true → a s M1 Q) ∧ (k = false → b s M1 Q)
theorem qe_ifExp {c a b : Expr} {wc : WT} {wa wb : WE} {pos : Pos} (hc : QT X c wc) (ha : QE X a wa) (hb : QE X b wb) : QE X (.IfExp c a b pos) (wIfE wc wa wb) := by
  refine ⟨PEw (pe_ifExp hc.pt ha.pe hb.pe) fun σ H Q ⟨G, M, s, Qt, S, R, z, k⟩ => ⟨G, M, s, _, S, R, z, fun d M1 G1 H1 q e => ?_⟩, fun s M Q Q' i z => hc.mono s M _ _ (fun d M1 q => ⟨fun e => ha.mono s M1 _ _ i (q.1 e), fun e => hb.mono s M1 _ _ i (q.2 e)⟩) z⟩
  cases d with
  | true =>
    rw [if_pos rfl]
    exact ⟨G1, M1, s, Qt, e.st, R.mono e.gs, q.1 rfl, fun t M2 G2 H2 v q2 e2 r2 => k t M2 G2 H2 v q2 (e.trans e2) r2⟩
  | false =>
    rw [if_neg Bool.false_ne_true]
    exact ⟨G1, M1, s, Qt, e.st, R.mono e.gs, q.2 rfl, fun t M2 G2 H2 v q2 e2 r2 => k t M2 G2 H2 v q2 (e.trans e2) r2⟩

/-! ### argument lists, tuples, lists -/
def wNil : WA := fun _ M Q => Q [] M
def wCons (w : WE) (u : WA) : WA := fun s M Q => w s M fun t M1 => u s M1 fun ts M2 => Q (t :: ts) M2
theorem qa_nil : QA X [] wNil := ⟨PAw pa_nil fun σ H Q ⟨G, M, s, Qt, S, R, z, k⟩ => k [] M G H [] z (Ext.refl S) Reps.nil, fun s M Q Q' i z => i _ _ z⟩
theorem qa_cons {e : Expr} {es : List Expr} {w : WE} {u : WA} (ha : QE X e w) (hr : QA X es u) (hs : starEach (e :: es) X.env = (false, eval e X.env) :: starEach es X.env := by rfl) : QA X (e :: es) (wCons w u) := by
  refine ⟨PAw (pa_cons ha.pe hr.pa hs) fun σ H Q ⟨G, M, s, Qt, S, R, z, k⟩ => ?_, fun s M Q Q' i z => ha.mono s M _ _ (fun t M1 q => hr.mono s M1 _ _ (fun ts M2 q2 => i _ _ q2) q) z⟩
  refine ⟨G, M, s, _, S, R, z, fun t M1 G1 H1 v q e r => ?_⟩
  refine ⟨G1, M1, s, _, e.st, R.mono e.gs, q, fun ts M2 G2 H2 vs q2 e2 r2 => ?_⟩
  exact k _ M2 G2 H2 _ q2 (e.trans e2) (Reps.cons (r.mono e2.gs) r2)
def wTup (u : WA) : WE := fun s M Q => u s M fun ts M1 => ts.length ≤ 100000 ∧ Q (.tup ts) M1
def wLst (u : WA) : WE := fun s M Q => u s M fun ts M1 => ts.length ≤ 100000 ∧ Q (.lst ts) M1
/-- a list that is owned -/
def wLstO (u : WA) : WE := fun s M Q => u s M fun ts M1 => ts.length ≤ 100000 ∧ ∀ l, M1 l = none → Q (.adr l) (mset M1 l (.lst ts))
theorem sz {n : Nat} (h : n ≤ 100000) : n ≤ sizeLine := Nat.le_trans h (by decide)
theorem szl {n : Nat} (h : n < 100000) : n < sizeLine := Nat.lt_of_lt_of_le h (by decide)
theorem qe_tup {es : List Expr} {u : WA} {k : Nat} {pos : Pos} (h : QA X es u) : QE X (.Tuple es k pos) (wTup u) := by
  refine ⟨PEw (pe_tup h.pa) fun σ H Q ⟨G, M, s, Qt, S, R, z, k⟩ => ⟨G, M, s, _, S, R, z, fun ts M1 G1 H1 vs q e r => ?_⟩, fun s M Q Q' i z => h.mono s M _ _ (fun ts M1 q => ⟨q.1, i _ _ q.2⟩) z⟩
  refine ⟨by rw [← r.len]; exact sz q.1, fun p hp => ?_⟩
  have x := Ext.solid e.st (o := .tup vs) hp
  exact k _ M1 _ _ _ q.2 (e.trans x) (by unfold Rep; exact ⟨p, vs, rfl, upd_same, r.mono x.gs⟩)
theorem qe_lst {es : List Expr} {u : WA} {pos : Pos} (h : QA X es u) : QE X (.List es pos) (wLst u) := by
  refine ⟨PEw (pe_lst h.pa) fun σ H Q ⟨G, M, s, Qt, S, R, z, k⟩ => ⟨G, M, s, _, S, R, z, fun ts M1 G1 H1 vs q e r => ?_⟩, fun s M Q Q' i z => h.mono s M _ _ (fun ts M1 q => ⟨q.1, i _ _ q.2⟩) z⟩
  refine ⟨by rw [← r.len]; exact sz q.1, fun p hp => ?_⟩
  have x := Ext.solid e.st (o := .lst vs) hp
  exact k _ M1 _ _ _ q.2 (e.trans x) (by unfold Rep; exact ⟨p, vs, rfl, upd_same, r.mono x.gs⟩)
theorem qe_lstO {es : List Expr} {u : WA} {pos : Pos} (h : QA X es u) : QE X (.List es pos) (wLstO u) := by
  refine ⟨PEw (pe_lst h.pa) fun σ H Q ⟨G, M, s, Qt, S, R, z, k⟩ => ⟨G, M, s, _, S, R, z, fun ts M1 G1 H1 vs q e r => ?_⟩, fun s M Q Q' i z => h.mono s M _ _ (fun ts M1 q => ⟨q.1, fun l hl => i _ _ (q.2 l hl)⟩) z⟩
  refine ⟨by rw [← r.len]; exact sz q.1, fun p hp => ?_⟩
  have x := Ext.owned e.st (u := .lst vs) (o := .lst ts) hp ⟨vs, upd_same, r⟩
  exact k _ _ _ _ _ (q.2 p (e.st.mnone hp)) (e.trans x) (by unfold Rep; rfl)
/-- {} -/
def wDicO : WE := fun s M Q => ∀ l, M l = none → Q (.adr l) (mset M l (.dic .un []))
theorem qe_dicO {pos : Pos} : QE X (.Dict [] [] pos) wDicO := by
  refine ⟨PEw pe_dnewK fun σ H Q ⟨G, M, s, Qt, S, R, z, k⟩ => fun p hp => ?_, fun s M Q Q' i z => fun l hl => i _ _ (z l hl)⟩
  have x := Ext.owned S (u := .dK []) (o := .dic .un []) hp ⟨[], upd_same, RepK.nil⟩
  exact k _ _ _ _ _ (z p (S.mnone hp)) x (by unfold Rep; rfl)

/-! ### attributes -/
def wFld (K : PySem.W.Frag) (w : WE) (f : Str) : WE := fun s M Q => w s M fun t M1 => match view M1 t with
  | some (.ins C fs) => Cls K C ∧ NoAttr K C f ∧ (match fs.lookup f with
    | some u => Q u M1
    | none => False)
  | _ => False
theorem qe_fld {e : Expr} {w : WE} {f : Str} {pos : Pos} (h : QE X e w) (hb : attributeBase e f X.env (eval e X.env) = eval e X.env := by rfl) : QE X (.Attribute e f pos) (wFld X.K w f) := by
  refine ⟨PEw (pe_fld h.pe hb) fun σ H Q ⟨G, M, s, Qt, S, R, z, k⟩ => ⟨G, M, s, _, S, R, z, fun t M1 G1 H1 v q e r => ?_⟩, fun s M Q Q' i z => h.mono s M _ _ (fun t M1 q => ?_) z⟩
  · cases ev : view M1 t with
    | none =>
      rw [ev] at q
      cases q
    | some o =>
      rw [ev] at q
      cases o with
      | ins C fs =>
        obtain ⟨q1, q2, q3⟩ := q
        obtain ⟨a, dx, vs, rfl, hh, rf⟩ := view_ins e.st r ev
        cases el : fs.lookup f with
        | none =>
          rw [el] at q3
          cases q3
        | some u =>
          rw [el] at q3
          obtain ⟨v, h1, h2⟩ := rf.look el
          exact ⟨a, C, dx, vs, v, rfl, hh, q1, q2, h1, k u M1 G1 H1 v q3 e h2⟩
      | _ => cases q
  · cases ev : view M1 t with
    | none =>
      rw [ev] at q
      cases q
    | some o =>
      rw [ev] at q
      cases o with
      | ins C fs =>
        obtain ⟨q1, q2, q3⟩ := q
        refine ⟨q1, q2, ?_⟩
        cases el : fs.lookup f with
        | none =>
          rw [el] at q3
          cases q3
        | some u =>
          rw [el] at q3
          exact i _ _ q3
      | _ => cases q
end
end Tr

set_option Elab.async false
set_option linter.all false
set_option maxRecDepth 100000
set_option maxHeartbeats 4000000
namespace Tr
open PySem L2
theorem rep_int {G : Hp} {i : Int} : Rep G (.int i) (.int i) := by unfold Rep; rfl
theorem rep_bl {G : Hp} {b : Bool} : Rep G (.bl b) (.bl b) := by unfold Rep; rfl
theorem rep_str {G : Hp} {z : Str} : Rep G (.str z) (.str z) := by unfold Rep; rfl
theorem rep_non {G : Hp} : Rep G .non .non := by unfold Rep; rfl
theorem rep_adr {G : Hp} {a : Addr} : Rep G (.adr a) (.ref a) := by unfold Rep; rfl
theorem QR.here {G H : Hp} {M : Mh} {Q : TQ} {Qv : VK} (S : Stt G M H) (k : QR G M H Q Qv) {t : T} {v : V} (q : Q t M) (r : Rep G t v) : Qv v H := k t M G H v q (Ext.refl S) r
theorem QR.tup {G H : Hp} {M : Mh} {Q : TQ} {Qv : VK} (S : Stt G M H) (k : QR G M H Q Qv) {ts : List T} {vs : List V} (q : Q (.tup ts) M) (r : Reps G ts vs) {p : Addr} (hp : H p = none) : Qv (.ref p) (upd H p (.tup vs)) := by
  have x := Ext.solid S (o := .tup vs) hp
  exact k _ M _ _ _ q x (by unfold Rep; exact ⟨p, vs, rfl, upd_same, r.mono x.gs⟩)
theorem QR.lst {G H : Hp} {M : Mh} {Q : TQ} {Qv : VK} (S : Stt G M H) (k : QR G M H Q Qv) {ts : List T} {vs : List V} (q : Q (.lst ts) M) (r : Reps G ts vs) {p : Addr} (hp : H p = none) : Qv (.ref p) (upd H p (.lst vs)) := by
  have x := Ext.solid S (o := .lst vs) hp
  exact k _ M _ _ _ q x (by unfold Rep; exact ⟨p, vs, rfl, upd_same, r.mono x.gs⟩)
section
variable {X : Cx} {f : Value → Value → Sem Value}
/-! ### ints -/
def trI (C : Int → Int → Prop) (g : Int → Int → Int) : T → T → Mh → TQ → Prop := fun x y M Q => match x, y with
  | .int i, .int j => C i j ∧ Q (.int (g i j)) M
  | _, _ => False
def trI0 (g : Int → Int → Int) : T → T → Mh → TQ → Prop := fun x y M Q => match x, y with
  | .int i, .int j => Q (.int (g i j)) M
  | _, _ => False
def trB0 (g : Int → Int → Bool) : T → T → Mh → TQ → Prop := fun x y M Q => match x, y with
  | .int i, .int j => Q (.bl (g i j)) M
  | _, _ => False
theorem ot_I {C : Int → Int → Prop} {g : Int → Int → Int} (h : OpR X f (rI C fun i j => .int (g i j))) : OpT X f (trI C g) := by
  refine ⟨⟨_, h, fun G M H x y xv yv Q Qv S rx ry w k => ?_⟩, fun x y M Q Q' i w => ?_⟩
  · cases x with
    | int a =>
      cases y with
      | int b =>
        unfold Rep at rx ry
        exact ⟨a, b, rx, ry, w.1, k.here S w.2 rep_int⟩
      | _ => cases w
    | _ => cases w
  · cases x with
    | int a =>
      cases y with
      | int b => exact ⟨w.1, i _ _ w.2⟩
      | _ => cases w
    | _ => cases w
theorem ot_I0 {g : Int → Int → Int} (h : OpR X f (rI0 fun i j => .int (g i j))) : OpT X f (trI0 g) := by
  refine ⟨⟨_, h, fun G M H x y xv yv Q Qv S rx ry w k => ?_⟩, fun x y M Q Q' i w => ?_⟩
  · cases x with
    | int a =>
      cases y with
      | int b =>
        unfold Rep at rx ry
        exact ⟨a, b, rx, ry, k.here S w rep_int⟩
      | _ => cases w
    | _ => cases w
  · cases x with
    | int a =>
      cases y with
      | int b => exact i _ _ w
      | _ => cases w
    | _ => cases w
theorem ot_B0 {g : Int → Int → Bool} (h : OpR X f (rI0 fun i j => .bl (g i j))) : OpT X f (trB0 g) := by
  refine ⟨⟨_, h, fun G M H x y xv yv Q Qv S rx ry w k => ?_⟩, fun x y M Q Q' i w => ?_⟩
  · cases x with
    | int a =>
      cases y with
      | int b =>
        unfold Rep at rx ry
        exact ⟨a, b, rx, ry, k.here S w rep_bl⟩
      | _ => cases w
    | _ => cases w
  · cases x with
    | int a =>
      cases y with
      | int b => exact i _ _ w
      | _ => cases w
    | _ => cases w
theorem ot_add : OpT X (binaryOp .Add) (trI0 fun i j => i + j) := ot_I0 op_add
theorem ot_sub : OpT X (binaryOp .Sub) (trI0 fun i j => i - j) := ot_I0 op_sub
theorem ot_mul : OpT X (binaryOp .Mult) (trI CMul fun i j => i * j) := ot_I op_mul
theorem ot_fdiv : OpT X (binaryOp .FloorDiv) (trI CDiv fun i j => i / j) := ot_I op_fdiv
theorem ot_mod : OpT X (binaryOp .Mod) (trI (fun _ j => 0 < j) fun i j => i % j) := ot_I op_mod
theorem ot_pow : OpT X (binaryOp .Pow) (trI CPow fun i j => i ^ j.toNat) := ot_I op_pow
theorem ot_lt : OpT X (compareOp .Lt) (trB0 fun i j => decide (i < j)) := ot_B0 op_lt
theorem ot_le : OpT X (compareOp .LtE) (trB0 fun i j => decide (i ≤ j)) := ot_B0 op_le
theorem ot_gt : OpT X (compareOp .Gt) (trB0 fun i j => decide (j < i)) := ot_B0 op_gt
theorem ot_ge : OpT X (compareOp .GtE) (trB0 fun i j => decide (j ≤ i)) := ot_B0 op_ge
/-! ### ==, != of ints and texts; is None -/
def trEq (g : Bool → Bool) : T → T → Mh → TQ → Prop := fun x y M Q => match x, y with
  | .int i, .int j => Q (.bl (g (decide (i = j)))) M
  | .str i, .str j => Q (.bl (g (decide (i = j)))) M
  | _, _ => False
theorem v_int (i j : Int) : decide (V.int i = V.int j) = decide (i = j) := by
  by_cases h : i = j
  · rw [h, decide_eq_true rfl, decide_eq_true rfl]
  · rw [decide_eq_false h, decide_eq_false fun z => h (V.int.inj z)]
theorem v_str (i j : Str) : decide (V.str i = V.str j) = decide (i = j) := by
  by_cases h : i = j
  · rw [h, decide_eq_true rfl, decide_eq_true rfl]
  · rw [decide_eq_false h, decide_eq_false fun z => h (V.str.inj z)]
theorem trEq_mono {g : Bool → Bool} (x y : T) (M : Mh) (Q Q' : TQ) (i : ∀ r M', Q r M' → Q' r M') (w : trEq g x y M Q) : trEq g x y M Q' := by
  cases x with
  | int a =>
    cases y with
    | int b => exact i _ _ w
    | _ => cases w
  | str a =>
    cases y with
    | str b => exact i _ _ w
    | _ => cases w
  | _ => cases w
theorem ot_eq : OpT X (compareOp .Eq) (trEq id) := by
  refine ⟨⟨_, op_eq, fun G M H x y xv yv Q Qv S rx ry w k => ?_⟩, trEq_mono⟩
  cases x with
  | int a =>
    cases y with
    | int b =>
      unfold Rep at rx ry
      subst rx ry
      refine ⟨rfl, ?_⟩
      rw [v_int]
      exact k.here S w rep_bl
    | _ => cases w
  | str a =>
    cases y with
    | str b =>
      unfold Rep at rx ry
      subst rx ry
      refine ⟨rfl, ?_⟩
      rw [v_str]
      exact k.here S w rep_bl
    | _ => cases w
  | _ => cases w
theorem ot_ne : OpT X (compareOp .NotEq) (trEq not) := by
  refine ⟨⟨_, op_ne, fun G M H x y xv yv Q Qv S rx ry w k => ?_⟩, trEq_mono⟩
  cases x with
  | int a =>
    cases y with
    | int b =>
      unfold Rep at rx ry
      subst rx ry
      refine ⟨rfl, ?_⟩
      rw [v_int]
      exact k.here S w rep_bl
    | _ => cases w
  | str a =>
    cases y with
    | str b =>
      unfold Rep at rx ry
      subst rx ry
      refine ⟨rfl, ?_⟩
      rw [v_str]
      exact k.here S w rep_bl
    | _ => cases w
  | _ => cases w
def isN : T → Bool
  | .non => true
  | _ => false
theorem isN_v {G : Hp} {t : T} {v : V} (r : Rep G t v) : decide (v = .non) = isN t := by
  cases t <;> unfold Rep at r
  case non => rw [r]; rfl
  case tup ts => obtain ⟨a, vs, rfl, _⟩ := r; rfl
  case lst ts => obtain ⟨a, vs, rfl, _⟩ := r; rfl
  case ins C fs => obtain ⟨a, dx, vs, rfl, _⟩ := r; rfl
  case dic kvs => obtain ⟨a, vs, rfl, _⟩ := r; rfl
  all_goals (rw [r]; rfl)
def trIs (g : Bool → Bool) : T → T → Mh → TQ → Prop := fun x y M Q => match y with
  | .non => Q (.bl (g (isN x))) M
  | _ => False
theorem trIs_mono {g : Bool → Bool} (x y : T) (M : Mh) (Q Q' : TQ) (i : ∀ r M', Q r M' → Q' r M') (w : trIs g x y M Q) : trIs g x y M Q' := by
  cases y with
  | non => exact i _ _ w
  | _ => cases w
theorem ot_isN : OpT X (compareOp .Is) (trIs id) := by
  refine ⟨⟨_, op_isN, fun G M H x y xv yv Q Qv S rx ry w k => ?_⟩, trIs_mono⟩
  cases y with
  | non =>
    unfold Rep at ry
    refine ⟨ry, ?_⟩
    rw [isN_v rx]
    exact k.here S w rep_bl
  | _ => cases w
theorem ot_notN : OpT X (compareOp .IsNot) (trIs not) := by
  refine ⟨⟨_, op_notN, fun G M H x y xv yv Q Qv S rx ry w k => ?_⟩, trIs_mono⟩
  cases y with
  | non =>
    unfold Rep at ry
    refine ⟨ry, ?_⟩
    rw [isN_v rx]
    exact k.here S w rep_bl
  | _ => cases w
/-! ### x in a list, a tuple of ints or texts -/
def inI (i : Int) (xs : List T) : Bool := xs.any fun y => match y with
  | .int j => j == i
  | _ => false
def inS (z : Str) (xs : List T) : Bool := xs.any fun y => match y with
  | .str j => j == z
  | _ => false
def flatT : T → Bool
  | .int _ => true
  | .str _ => true
  | _ => false
theorem reps_flat {G : Hp} : ∀ {ts : List T} {vs : List V}, Reps G ts vs → ts.all flatT = true → vs.all flatV = true
  | [], _, r, _ => by unfold Reps at r; rw [r]; rfl
  | t :: ts, _, r, h => by
    unfold Reps at r
    obtain ⟨v, q, rfl, r1, r2⟩ := r
    rw [List.all_cons, Bool.and_eq_true] at h ⊢
    refine ⟨?_, reps_flat r2 h.2⟩
    cases t with
    | int i => unfold Rep at r1; rw [r1]; rfl
    | str i => unfold Rep at r1; rw [r1]; rfl
    | _ => cases h.1
theorem reps_inI {G : Hp} {i : Int} : ∀ {ts : List T} {vs : List V}, Reps G ts vs → ts.all flatT = true → inV (.int i) vs = inI i ts
  | [], _, r, _ => by unfold Reps at r; rw [r]; rfl
  | t :: ts, _, r, h => by
    unfold Reps at r
    obtain ⟨v, q, rfl, r1, r2⟩ := r
    rw [List.all_cons, Bool.and_eq_true] at h
    have ih := reps_inI (i := i) r2 h.2
    unfold inV inI at ih ⊢
    rw [List.any_cons, List.any_cons, ih]
    cases t with
    | int j => unfold Rep at r1; rw [r1]; rfl
    | str j => unfold Rep at r1; rw [r1]; rfl
    | _ => cases h.1
theorem reps_inS {G : Hp} {i : Str} : ∀ {ts : List T} {vs : List V}, Reps G ts vs → ts.all flatT = true → inV (.str i) vs = inS i ts
  | [], _, r, _ => by unfold Reps at r; rw [r]; rfl
  | t :: ts, _, r, h => by
    unfold Reps at r
    obtain ⟨v, q, rfl, r1, r2⟩ := r
    rw [List.all_cons, Bool.and_eq_true] at h
    have ih := reps_inS (i := i) r2 h.2
    unfold inV inS at ih ⊢
    rw [List.any_cons, List.any_cons, ih]
    cases t with
    | int j => unfold Rep at r1; rw [r1]; rfl
    | str j => unfold Rep at r1; rw [r1]; rfl
    | _ => cases h.1
def inT (x : T) (xs : List T) : Option Bool := match x with
  | .int i => some (inI i xs)
  | .str z => some (inS z xs)
  | _ => none
def trIn (g : Bool → Bool) : T → T → Mh → TQ → Prop := fun x y M Q => match view M y with
  | some (.lst xs) => xs.all flatT = true ∧ (match inT x xs with
    | some b => Q (.bl (g b)) M
    | none => False)
  | some (.tup xs) => xs.all flatT = true ∧ (match inT x xs with
    | some b => Q (.bl (g b)) M
    | none => False)
  | _ => False
theorem trIn_mono {g : Bool → Bool} (x y : T) (M : Mh) (Q Q' : TQ) (i : ∀ r M', Q r M' → Q' r M') (w : trIn g x y M Q) : trIn g x y M Q' := by
  unfold trIn at w ⊢
  cases e : view M y with
  | none =>
    rw [e] at w
    cases w
  | some o =>
    rw [e] at w
    cases o with
    | lst xs =>
      refine ⟨w.1, ?_⟩
      have w2 := w.2
      cases q : inT x xs with
      | none =>
        rw [q] at w2
        cases w2
      | some b =>
        rw [q] at w2
        exact i _ _ w2
    | tup xs =>
      refine ⟨w.1, ?_⟩
      have w2 := w.2
      cases q : inT x xs with
      | none =>
        rw [q] at w2
        cases w2
      | some b =>
        rw [q] at w2
        exact i _ _ w2
    | _ => cases w
theorem in_read {neg : Bool} {g : Bool → Bool} (hg : ∀ b, g b = (if neg then !b else b)) {K : PySem.W.Frag} (G : Hp) (M : Mh) (H : Hp) (x y : T) (xv yv : V) (Q : TQ) (Qv : VK) (S : Stt G M H) (rx : Rep G x xv) (ry : Rep G y yv) (w : trIn g x y M Q)
    (k : QR G M H Q Qv) : rIn K neg xv yv H Qv := by
  have key : ∀ (p : Addr) (xs : List T) (vs : List V), yv = .ref p → (SqL K H p vs ∨ SqT K H p vs) → Reps G xs vs → xs.all flatT = true → (match inT x xs with
    | some b => Q (.bl (g b)) M
    | none => False) → rIn K neg xv yv H Qv := fun p xs vs e hq r hf w2 => by
    cases x with
    | int i =>
      unfold Rep at rx
      refine ⟨p, vs, e, hq, by rw [rx]; rfl, reps_flat r hf, ?_⟩
      rw [rx, reps_inI r hf, ← hg]
      exact k.here S w2 rep_bl
    | str i =>
      unfold Rep at rx
      refine ⟨p, vs, e, hq, by rw [rx]; rfl, reps_flat r hf, ?_⟩
      rw [rx, reps_inS r hf, ← hg]
      exact k.here S w2 rep_bl
    | _ => cases w2
  unfold trIn at w
  cases e : view M y with
  | none =>
    rw [e] at w
    cases w
  | some o =>
    rw [e] at w
    cases o with
    | lst xs =>
      obtain ⟨a, vs, e1, hh, r⟩ := view_lst S ry e
      exact key a xs vs e1 (.inl (SqL.of hh)) r w.1 w.2
    | tup xs =>
      obtain ⟨a, vs, e1, hh, r⟩ := view_tup S ry e
      exact key a xs vs e1 (.inr (SqT.of hh)) r w.1 w.2
    | _ => cases w
theorem ot_in : OpT X (compareOp .In) (trIn id) := ⟨⟨_, op_in_seq, in_read (neg := false) (g := id) fun b => rfl⟩, trIn_mono⟩
theorem ot_notIn : OpT X (compareOp .NotIn) (trIn not) := ⟨⟨_, op_notIn_seq, in_read (neg := true) (g := not) fun b => rfl⟩, trIn_mono⟩
/-- one sign in a text -/
def trSign : T → T → Mh → TQ → Prop := fun x y M Q => match x, y with
  | .str z, .str u => ∃ c : Nat, z = ⟨#[c]⟩ ∧ Q (.bl (decide (c ∈ u.cps.toList))) M
  | _, _ => False
theorem ot_inSign : OpT X (compareOp .In) trSign := by
  refine ⟨⟨_, op_in_sign, fun G M H x y xv yv Q Qv S rx ry w k => ?_⟩, fun x y M Q Q' i w => ?_⟩
  · cases x with
    | str a =>
      cases y with
      | str b =>
        unfold Rep at rx ry
        obtain ⟨c, e, w⟩ := w
        exact ⟨c, b, by rw [rx, e], ry, k.here S w rep_bl⟩
      | _ => cases w
    | _ => cases w
  · cases x with
    | str a =>
      cases y with
      | str b =>
        obtain ⟨c, e, w⟩ := w
        exact ⟨c, e, i _ _ w⟩
      | _ => cases w
    | _ => cases w
/-! ### joining -/
def trCat : T → T → Mh → TQ → Prop := fun x y M Q => match view M x, view M y with
  | some (.lst xs), some (.lst ys) => xs.length + ys.length ≤ 100000 ∧ Q (.lst (xs ++ ys)) M
  | some (.tup xs), some (.tup ys) => xs.length + ys.length ≤ 100000 ∧ ((xs = [] → Q y M) ∧ (xs ≠ [] → ys = [] → Q x M) ∧ (xs ≠ [] → ys ≠ [] → Q (.tup (xs ++ ys)) M))
  | _, _ => False
def trCatL : T → T → Mh → TQ → Prop := fun x y M Q => match view M x, view M y with
  | some (.lst xs), some (.lst ys) => xs.length + ys.length ≤ 100000 ∧ Q (.lst (xs ++ ys)) M
  | _, _ => False
theorem ot_catL : OpT X (binaryOp .Add) trCatL := by
  refine ⟨⟨_, op_cat, fun G M H x y xv yv Q Qv S rx ry w k => ?_⟩, fun x y M Q Q' i w => ?_⟩
  · unfold trCatL at w
    cases e1 : view M x with
    | none => rw [e1] at w; cases w
    | some o =>
      cases o with
      | lst xs =>
        cases e2 : view M y with
        | none => rw [e1, e2] at w; cases w
        | some u =>
          cases u with
          | lst ys =>
            rw [e1, e2] at w
            obtain ⟨a, vs, rfl, ha, r1⟩ := view_lst S rx e1
            obtain ⟨b, us, rfl, hb, r2⟩ := view_lst S ry e2
            exact ⟨a, b, vs, us, rfl, rfl, ha, hb, by rw [← r1.len, ← r2.len]; exact sz w.1, fun p hp => k.lst S w.2 (r1.append r2) hp⟩
          | _ => rw [e1, e2] at w; cases w
      | _ => rw [e1] at w; cases w
  · unfold trCatL at w ⊢
    cases e1 : view M x with
    | none => rw [e1] at w; cases w
    | some o =>
      cases o with
      | lst xs =>
        cases e2 : view M y with
        | none => rw [e1, e2] at w; cases w
        | some u =>
          cases u with
          | lst ys =>
            rw [e1, e2] at w
            exact ⟨w.1, i _ _ w.2⟩
          | _ => rw [e1, e2] at w; cases w
      | _ => rw [e1] at w; cases w
/-- solid tuples alone -/
def trCatT : T → T → Mh → TQ → Prop := fun x y M Q => match x, y with
  | .tup xs, .tup ys => xs.length + ys.length ≤ 100000 ∧ Q (.tup (xs ++ ys)) M
  | _, _ => False
theorem ot_catT : OpT X (binaryOp .Add) trCatT := by
  refine ⟨⟨_, op_catA, fun G M H x y xv yv Q Qv S rx ry w k => ?_⟩, fun x y M Q Q' i w => ?_⟩
  · cases x with
    | tup xs =>
      cases y with
      | tup ys =>
        obtain ⟨a, vs, rfl, ha, r1⟩ := view_tup S rx (ts := xs) rfl
        obtain ⟨b, us, rfl, hb, r2⟩ := view_tup S ry (ts := ys) rfl
        refine ⟨a, b, vs, us, rfl, rfl, SqT.of ha, SqT.of hb, by rw [← r1.len, ← r2.len]; exact sz w.1, fun e => ?_, fun _ e => ?_, fun _ _ p hp => k.tup S w.2 (r1.append r2) hp⟩
        · have z : xs = [] := List.eq_nil_of_length_eq_zero (by rw [r1.len, e]; rfl)
          have w2 := w.2
          rw [z, List.nil_append] at w2
          exact k.here S w2 ry
        · have z : ys = [] := List.eq_nil_of_length_eq_zero (by rw [r2.len, e]; rfl)
          have w2 := w.2
          rw [z, List.append_nil] at w2
          exact k.here S w2 rx
      | _ => cases w
    | _ => cases w
  · cases x with
    | tup xs =>
      cases y with
      | tup ys => exact ⟨w.1, i _ _ w.2⟩
      | _ => cases w
    | _ => cases w
def trRep : T → T → Mh → TQ → Prop := fun x y M Q => match x, y with
  | .lst xs, .int j => 0 ≤ j ∧ j ≤ 1000 ∧ xs.length ≤ 10 ∧ Q (.lst (List.replicate j.toNat xs).flatten) M
  | _, _ => False
theorem reps_rep {G : Hp} {xs : List T} {vs : List V} (r : Reps G xs vs) : ∀ n : Nat, Reps G (List.replicate n xs).flatten (List.replicate n vs).flatten
  | 0 => Reps.nil
  | n + 1 => by
    rw [List.replicate_succ, List.replicate_succ, List.flatten_cons, List.flatten_cons]
    exact r.append (reps_rep r n)
theorem ot_rep : OpT X (binaryOp .Mult) trRep := by
  refine ⟨⟨_, op_rep, fun G M H x y xv yv Q Qv S rx ry w k => ?_⟩, fun x y M Q Q' i w => ?_⟩
  · cases x with
    | lst xs =>
      cases y with
      | int j =>
        obtain ⟨w1, w2, w3, w4⟩ := w
        obtain ⟨a, vs, rfl, ha, r1⟩ := view_lst S rx (ts := xs) rfl
        unfold Rep at ry
        refine ⟨a, j, vs, rfl, ry, ha, by omega, by omega, ?_, fun p hp => k.lst S w4 (reps_rep r1 _) hp⟩
        have h1 : vs.length ≤ 10 := by rw [← r1.len]; exact w3
        have h2 : j.toNat ≤ 1000 := by omega
        have h3 : vs.length * j.toNat ≤ 10 * 1000 := Nat.mul_le_mul h1 h2
        exact sz (by omega)
      | _ => cases w
    | _ => cases w
  · cases x with
    | lst xs =>
      cases y with
      | int j => exact ⟨w.1, w.2.1, w.2.2.1, i _ _ w.2.2.2⟩
      | _ => cases w
    | _ => cases w
/-! ### a list of texts against [] -/
theorem dp_strs {K : PySem.W.Frag} {H : Hp} : ∀ ns : List Str, DpAll K H (ns.map V.str) (ns.map PyData.str)
  | [] => .nil
  | n :: ns => .cons (.str n) (dp_strs ns)
theorem shaped_strs (ns : List Str) (ok : ∀ n ∈ ns, PyData.canLay0 (.str n) = true) : SeqAt.shaped (.list (ns.map PyData.str)) = true := by
  have h : ∀ ns : List Str, (∀ n ∈ ns, PyData.canLay0 (.str n) = true) → (PyData.canLayAll0 (ns.map PyData.str)) = true ∧ PyData.depthAll (ns.map PyData.str) ≤ 1 := fun ns => by
    induction ns with
    | nil => exact fun _ => ⟨rfl, by decide⟩
    | cons n ns ih =>
      intro ok
      have ih := ih fun m hm => ok m (List.mem_cons_of_mem _ hm)
      rw [List.map_cons]
      constructor
      · unfold PyData.canLayAll0
        rw [ih.1, ok n List.mem_cons_self]
        rfl
      · unfold PyData.depthAll
        have := ih.2
        have e : PyData.depth (.str n) ≤ 1 := by unfold PyData.depth; omega
        omega
  have h := h ns ok
  unfold SeqAt.shaped
  rw [Bool.and_eq_true, decide_eq_true_eq]
  constructor
  · unfold PyData.canLay0
    exact h.1
  · unfold PyData.depth
    have := h.2
    omega
end
end Tr

set_option Elab.async false
set_option linter.all false
set_option maxRecDepth 100000
set_option maxHeartbeats 4000000
namespace Tr
open PySem L2
section
variable {X : Cx}
/-! ### a list of texts against [], a dict against {} -/
def strsT : List T → Option (List Str)
  | [] => some []
  | .str z :: r => (strsT r).map (z :: ·)
  | _ :: _ => none
theorem strsT_map : ∀ {ts : List T} {ns : List Str}, strsT ts = some ns → ts = ns.map T.str
  | [], ns, h => by cases h; rfl
  | .str z :: r, ns, h => by
    unfold strsT at h
    cases e : strsT r with
    | none => rw [e] at h; cases h
    | some q =>
      rw [e] at h
      cases h
      rw [strsT_map e]
      rfl
  | .non :: _, _, h => by cases h
  | .bl _ :: _, _, h => by cases h
  | .int _ :: _, _, h => by cases h
  | .ty _ :: _, _, h => by cases h
  | .adr _ :: _, _, h => by cases h
  | .tup _ :: _, _, h => by cases h
  | .lst _ :: _, _, h => by cases h
  | .ins _ _ :: _, _, h => by cases h
  | .dic _ :: _, _, h => by cases h
theorem strsT_of : ∀ ns : List Str, strsT (ns.map T.str) = some ns
  | [] => rfl
  | n :: ns => by
    rw [List.map_cons]
    unfold strsT
    rw [strsT_of ns]
    rfl
def trNil (g : Bool → Bool) : T → T → Mh → TQ → Prop := fun x y M Q => match view M x, y with
  | some (.lst xs), .lst [] => ∃ ns : List Str, xs = ns.map T.str ∧ (∀ n ∈ ns, PyData.canLay0 (.str n) = true) ∧ Q (.bl (g ns.isEmpty)) M
  | _, _ => False
theorem trNil_mono {g : Bool → Bool} (x y : T) (M : Mh) (Q Q' : TQ) (i : ∀ r M', Q r M' → Q' r M') (w : trNil g x y M Q) : trNil g x y M Q' := by
  unfold trNil at w ⊢
  cases e : view M x with
  | none => rw [e] at w; cases w
  | some o =>
    rw [e] at w
    cases o with
    | lst xs =>
      cases y with
      | lst ys =>
        cases ys with
        | nil =>
          obtain ⟨ns, e1, e2, w⟩ := w
          exact ⟨ns, e1, e2, i _ _ w⟩
        | cons _ _ => cases w
      | _ => cases w
    | _ => cases w
theorem nil_data {K : PySem.W.Frag} {G : Hp} {M : Mh} {H : Hp} {g : Bool → Bool} {x y : T} {xv yv : V} {Q : TQ} {Qv : VK} (S : Stt G M H) (rx : Rep G x xv) (ry : Rep G y yv) (w : trNil g x y M Q) (k : QR G M H Q Qv) :
    ∃ d e, Dp K H xv d ∧ Dp K H yv e ∧ SeqAt.shaped d = true ∧ SeqAt.shaped e = true ∧ Qv (.bl (g (PyData.eqv d e))) H := by
  unfold trNil at w
  cases e : view M x with
  | none => rw [e] at w; cases w
  | some o =>
    rw [e] at w
    cases o with
    | lst xs =>
      cases y with
      | lst ys =>
        cases ys with
        | nil =>
          obtain ⟨ns, e1, e2, w⟩ := w
          obtain ⟨a, vs, rfl, ha, r1⟩ := view_lst S rx e
          obtain ⟨b, us, rfl, hb, r2⟩ := view_lst S ry (ts := []) rfl
          rw [e1] at r1
          have e3 := Reps.strs r1
          unfold Reps at r2
          subst r2 e3
          refine ⟨.list (ns.map PyData.str), .list [], .lst (SqL.of ha) (dp_strs ns), .lst (SqL.of hb) .nil, shaped_strs ns e2, shaped_strs [] (fun _ h => nomatch h), ?_⟩
          have e4 : PyData.eqv (.list (ns.map PyData.str)) (.list []) = ns.isEmpty := by
            unfold PyData.eqv
            cases ns with
            | nil => rfl
            | cons _ _ => rfl
          rw [e4]
          exact k.here S w rep_bl
        | cons _ _ => cases w
      | _ => cases w
    | _ => cases w
theorem ot_eqNil (hu : X.A.units + 64 < cLine) : OpT X (compareOp .Eq) (trNil id) :=
  ⟨⟨_, op_eqD hu, fun G M H x y xv yv Q Qv S rx ry w k => nil_data S rx ry w k⟩, trNil_mono⟩
theorem ot_neNil (hu : X.A.units + 64 < cLine) : OpT X (compareOp .NotEq) (trNil not) :=
  ⟨⟨_, op_neD hu, fun G M H x y xv yv Q Qv S rx ry w k => nil_data S rx ry w k⟩, trNil_mono⟩
/-- {} == {} -/
def trDic0 : T → T → Mh → TQ → Prop := fun x y M Q => match x, y with
  | .adr a, .adr b => M a = some (.dic .un []) ∧ M b = some (.dic .un []) ∧ Q (.bl true) M
  | _, _ => False
theorem ot_eqDic0 (hu : X.A.units < cLine) : OpT X (compareOp .Eq) trDic0 := by
  refine ⟨⟨_, op_eq_dictA hu, fun G M H x y xv yv Q Qv S rx ry w k => ?_⟩, fun x y M Q Q' i w => ?_⟩
  · cases x with
    | adr a =>
      cases y with
      | adr b =>
        obtain ⟨w1, w2, w3⟩ := w
        obtain ⟨vs, h1, r1⟩ := (S.own a _ w1).2
        obtain ⟨us, h2, r2⟩ := (S.own b _ w2).2
        unfold RepK at r1 r2
        subst r1 r2
        unfold Rep at rx ry
        exact ⟨a, b, [], [], rx, ry, h1, h2, rfl, fun p hp => (nomatch hp), k.here S w3 rep_bl⟩
      | _ => cases w
    | _ => cases w
  · cases x with
    | adr a =>
      cases y with
      | adr b => exact ⟨w.1, w.2.1, i _ _ w.2.2⟩
      | _ => cases w
    | _ => cases w

/-! ### subscripts -/
structure IxT (X : Cx) (TR : T → T → Mh → TQ → Prop) : Prop where
  ex : ∃ r : R2, IxR X r ∧ ∀ G M H x y xv yv Q Qv, Stt G M H → Rep G x xv → Rep G y yv → TR x y M Q → QR G M H Q Qv → r xv yv H Qv
  mono : ∀ x y M Q Q', (∀ r M', Q r M' → Q' r M') → TR x y M Q → TR x y M Q'
theorem qe_ix {TR : T → T → Mh → TQ → Prop} {a b : Expr} {wa wb : WE} {pos : Pos} (ho : IxT X TR) (ha : QE X a wa) (hb : QE X b wb) (hs : PlainIx b := by intro _ _; rfl) : QE X (.Subscript a b pos) (wOp TR wa wb) := by
  obtain ⟨r, h1, h2⟩ := ho.ex
  exact ⟨PEw (pe_ix h1 ha.pe hb.pe hs) (op_read h2), wOp_mono ho.mono ha.mono hb.mono⟩
/-- at a place from 0 on -/
def tget (xs : List T) (i : Int) : Option T := if 0 ≤ i then xs[i.toNat]? else none
def trIx : T → T → Mh → TQ → Prop := fun x y M Q => match view M x, y with
  | some (.lst xs), .int i => (match tget xs i with
    | some t => Q t M
    | none => False)
  | some (.tup xs), .int i => (match tget xs i with
    | some t => Q t M
    | none => False)
  | _, _ => False
theorem at_get {G : Hp} {xs : List T} {vs : List V} {i : Int} {t : T} (r : Reps G xs vs) (h : tget xs i = some t) : ∃ v, atI vs i = some v ∧ Rep G t v := by
  unfold tget at h
  by_cases h0 : 0 ≤ i
  · rw [if_pos h0] at h
    obtain ⟨v, h1, h2⟩ := r.get h
    have e : i = ((i.toNat : Nat) : Int) := by omega
    exact ⟨v, by rw [e]; exact atI_nat h1, h2⟩
  · rw [if_neg h0] at h
    cases h
theorem it_seq : IxT X trIx := by
  refine ⟨⟨_, ix_seq, fun G M H x y xv yv Q Qv S rx ry w k => ?_⟩, fun x y M Q Q' i w => ?_⟩
  · unfold trIx at w
    cases e : view M x with
    | none => rw [e] at w; cases w
    | some o =>
      rw [e] at w
      cases o with
      | lst xs =>
        cases y with
        | int j =>
          dsimp only at w
          cases q : tget xs j with
          | none => rw [q] at w; cases w
          | some t =>
            rw [q] at w
            obtain ⟨a, vs, rfl, ha, r1⟩ := view_lst S rx e
            obtain ⟨v, h1, h2⟩ := at_get r1 q
            unfold Rep at ry
            exact .inl ⟨a, vs, j, v, rfl, ry, SqL.of ha, h1, k.here S w h2⟩
        | _ => cases w
      | tup xs =>
        cases y with
        | int j =>
          dsimp only at w
          cases q : tget xs j with
          | none => rw [q] at w; cases w
          | some t =>
            rw [q] at w
            obtain ⟨a, vs, rfl, ha, r1⟩ := view_tup S rx e
            obtain ⟨v, h1, h2⟩ := at_get r1 q
            unfold Rep at ry
            exact .inr (.inl ⟨a, vs, j, v, rfl, ry, SqT.of ha, h1, k.here S w h2⟩)
        | _ => cases w
      | _ => cases w
  · unfold trIx at w ⊢
    cases e : view M x with
    | none => rw [e] at w; cases w
    | some o =>
      rw [e] at w
      cases o with
      | lst xs =>
        cases y with
        | int j =>
          dsimp only at w ⊢
          cases q : tget xs j with
          | none => rw [q] at w; cases w
          | some t =>
            rw [q] at w
            exact i _ _ w
        | _ => cases w
      | tup xs =>
        cases y with
        | int j =>
          dsimp only at w ⊢
          cases q : tget xs j with
          | none => rw [q] at w; cases w
          | some t =>
            rw [q] at w
            exact i _ _ w
        | _ => cases w
      | _ => cases w
/-- a sign of a text -/
def trIxS : T → T → Mh → TQ → Prop := fun x y M Q => match x, y with
  | .str z, .int i => ∃ c : Nat, 0 ≤ i ∧ z.length ≤ 100000 ∧ z.cps.toList[i.toNat]? = some c ∧ Q (.str ⟨#[c]⟩) M
  | _, _ => False
theorem it_str : IxT X trIxS := by
  refine ⟨⟨_, ix_str, fun G M H x y xv yv Q Qv S rx ry w k => ?_⟩, fun x y M Q Q' i w => ?_⟩
  · cases x with
    | str z =>
      cases y with
      | int j =>
        obtain ⟨c, h0, hl, hc, w⟩ := w
        unfold Rep at rx ry
        have e : j = ((j.toNat : Nat) : Int) := by omega
        exact ⟨z, j, c, rx, ry, sz hl, by rw [e]; exact atI_nat hc, k.here S w rep_str⟩
      | _ => cases w
    | _ => cases w
  · cases x with
    | str z =>
      cases y with
      | int j =>
        obtain ⟨c, h0, hl, hc, w⟩ := w
        exact ⟨c, h0, hl, hc, i _ _ w⟩
      | _ => cases w
    | _ => cases w
/-! ### dicts -/
/-- what stands as a key -/
def keyT : T → Option Key
  | .int i => some (.inl i)
  | .str z => some (.inr z)
  | _ => none
theorem keyT_rep {G : Hp} {t : T} {v : V} {k : Key} (h : keyT t = some k) (r : Rep G t v) : v = kV k := by
  cases t with
  | int i => cases h; unfold Rep at r; exact r
  | str z => cases h; unfold Rep at r; exact r
  | _ => cases h
def dgetW (M : Mh) (x y : T) (K : Option T → Prop) : Prop := match view M x, keyT y with
  | some (.dic _ kvs), some k => K (kget k kvs)
  | _, _ => False
theorem dgetW_mono {M : Mh} {x y : T} {K K' : Option T → Prop} (i : ∀ o, K o → K' o) (w : dgetW M x y K) : dgetW M x y K' := by
  unfold dgetW at w ⊢
  cases e : view M x with
  | none => rw [e] at w; cases w
  | some o =>
    rw [e] at w
    cases o with
    | dic lk kvs =>
      cases q : keyT y with
      | none => rw [q] at w; cases w
      | some k =>
        rw [q] at w
        exact i _ w
    | _ => cases w
theorem dgetW_read {G : Hp} {M : Mh} {H : Hp} (S : Stt G M H) {x y : T} {xv yv : V} (rx : Rep G x xv) (ry : Rep G y yv) {K : Option T → Prop} (w : dgetW M x y K) : ∃ a o, xv = .ref a ∧ K o ∧ (∀ t, o = some t → ∃ v, DGet H a yv (some v) ∧ Rep G t v) ∧ (o = none → DGet H a yv none) := by
  unfold dgetW at w
  cases e : view M x with
  | none => rw [e] at w; cases w
  | some o =>
    rw [e] at w
    cases o with
    | dic lk kvs =>
      cases q : keyT y with
      | none => rw [q] at w; cases w
      | some k =>
        rw [q] at w
        obtain ⟨a, vs, rfl, ha, r⟩ := view_dic S rx e
        have ek := keyT_rep q ry
        obtain ⟨v1, v2⟩ := r.val (k := k)
        refine ⟨a, kget k kvs, rfl, w, fun t et => ?_, fun et => ?_⟩
        · obtain ⟨v, h1, h2⟩ := v1 t et
          exact ⟨v, .inl ⟨vs, k, ha, ek, h1.symm⟩, h2⟩
        · exact .inl ⟨vs, k, ha, ek, (v2 et).symm⟩
    | _ => cases w
def wDGet (wd wk : WE) : WE := fun s M Q => wd s M fun d M1 => wk s M1 fun y M2 => dgetW M2 d y fun o => match o with
  | some t => Q t M2
  | none => False
theorem qe_dget {o i : Expr} {wd wk : WE} {pos : Pos} (hu : X.A.units + 1 < cLine) (hd : QE X o wd) (hk : QE X i wk) (hs : NoSl i := by intro _ _; rfl) : QE X (.Subscript o i pos) (wDGet wd wk) := by
  refine ⟨PEw (pe_dget hu hd.pe hk.pe hs) fun σ H Q ⟨G, M, s, Qt, S, R, z, k⟩ => ⟨G, M, s, _, S, R, z, fun d M1 G1 H1 dv q e rd => ⟨G1, M1, s, _, e.st, R.mono e.gs, q, fun y M2 G2 H2 yv q2 e2 ry => ?_⟩⟩,
    fun s M Q Q' i z => hd.mono s M _ _ (fun d M1 q => hk.mono s M1 _ _ (fun y M2 q2 => dgetW_mono (fun o w => ?_) q2) q) z⟩
  · obtain ⟨a, o, e1, w, h1, h2⟩ := dgetW_read e2.st (rd.mono e2.gs) ry q2
    cases o with
    | none => cases w
    | some t =>
      obtain ⟨v, g, r⟩ := h1 t rfl
      exact ⟨a, v, e1, g, k t M2 G2 H2 v w (e.trans e2) r⟩
  · cases o with
    | none => cases w
    | some t => exact i _ _ w
def wDIn (g : Bool → Bool) (wk wd : WE) : WE := fun s M Q => wk s M fun y M1 => wd s M1 fun d M2 => dgetW M2 d y fun o => Q (.bl (g o.isSome)) M2
theorem din_read {g : Bool → Bool} {wk wd : WE} (σ : St) (H : Hp) (Q : VK) (h : lE (wDIn g wk wd) σ H Q) : lE wk σ H fun y H1 => lE wd σ H1 fun x H2 => ∃ a o, x = .ref a ∧ DGet H2 a y o ∧ Q (.bl (g o.isSome)) H2 := by
  obtain ⟨G, M, s, Qt, S, R, z, k⟩ := h
  refine ⟨G, M, s, _, S, R, z, fun y M1 G1 H1 yv q e ry => ⟨G1, M1, s, _, e.st, R.mono e.gs, q, fun d M2 G2 H2 dv q2 e2 rd => ?_⟩⟩
  obtain ⟨a, o, e1, w, h1, h2⟩ := dgetW_read e2.st rd (ry.mono e2.gs) q2
  cases o with
  | none => exact ⟨a, none, e1, h2 rfl, k _ M2 G2 H2 _ w (e.trans e2) rep_bl⟩
  | some t =>
    obtain ⟨v, gg, r⟩ := h1 t rfl
    exact ⟨a, some v, e1, gg, k _ M2 G2 H2 _ w (e.trans e2) rep_bl⟩
theorem din_mono {g : Bool → Bool} {wk wd : WE} (hk : ∀ s M Q Q', (∀ r M', Q r M' → Q' r M') → wk s M Q → wk s M Q') (hd : ∀ s M Q Q', (∀ r M', Q r M' → Q' r M') → wd s M Q → wd s M Q') :
    ∀ s M Q Q', (∀ r M', Q r M' → Q' r M') → wDIn g wk wd s M Q → wDIn g wk wd s M Q' := fun s M Q Q' i z => hk s M _ _ (fun y M1 q => hd s M1 _ _ (fun d M2 q2 => dgetW_mono (fun o w => i _ _ w) q2) q) z
theorem qe_din {o i : Expr} {wd wk : WE} {pos : Pos} (hu : X.A.units + 1 < cLine) (hk : QE X i wk) (hd : QE X o wd) (hm : behindInMarks .In o = false := by rfl) : QE X (.Compare i [.In] [o] pos) (wDIn id wk wd) :=
  ⟨PEw (pe_cmp (pc_din hu hk.pe hd.pe) hm) din_read, din_mono hk.mono hd.mono⟩
theorem qe_dnotin {o i : Expr} {wd wk : WE} {pos : Pos} (hu : X.A.units + 1 < cLine) (hk : QE X i wk) (hd : QE X o wd) (hm : behindInMarks .NotIn o = false := by rfl) : QE X (.Compare i [.NotIn] [o] pos) (wDIn not wk wd) :=
  ⟨PEw (pe_cmp (pc_dnotin hu hk.pe hd.pe) hm) din_read, din_mono hk.mono hd.mono⟩
theorem qt_din {o i : Expr} {wd wk : WE} {pos : Pos} (hu : X.A.units + 1 < cLine) (hk : QE X i wk) (hd : QE X o wd) (hm : behindInMarks .In o = false := by rfl) : QT X (.Compare i [.In] [o] pos) (wTest (wDIn id wk wd)) :=
  ⟨PTw' (pt_cmp (pc_din hu hk.pe hd.pe) hm) fun σ H Q h => din_read σ H _ (test_read σ H Q h), wTest_mono (din_mono hk.mono hd.mono)⟩
theorem qt_dnotin {o i : Expr} {wd wk : WE} {pos : Pos} (hu : X.A.units + 1 < cLine) (hk : QE X i wk) (hd : QE X o wd) (hm : behindInMarks .NotIn o = false := by rfl) : QT X (.Compare i [.NotIn] [o] pos) (wTest (wDIn not wk wd)) :=
  ⟨PTw' (pt_cmp (pc_dnotin hu hk.pe hd.pe) hm) fun σ H Q h => din_read σ H _ (test_read σ H Q h), wTest_mono (din_mono hk.mono hd.mono)⟩
/-! ### chains a < b < c -/
def wChain (TR TR' : T → T → Mh → TQ → Prop) (wa wb wc : WE) : WE := fun s M Q => wa s M fun x M1 => wb s M1 fun y M2 => TR x y M2 fun z M3 => match z with
  | .bl k => (k = true → wc s M3 fun u M4 => TR' y u M4 Q) ∧ (k = false → Q (.bl false) M3)
  | _ => False
theorem qt_chain {op op' : CmpOp} {TR TR' : T → T → Mh → TQ → Prop} {a b c : Expr} {wa wb wc : WE} {pos : Pos} (ho : OpT X (compareOp op) TR) (ho' : OpT X (compareOp op') TR') (ha : QE X a wa) (hb : QE X b wb) (hc : QE X c wc) (hm : lastMarks [op, op'] [b, c] = false := by rfl) :
    QT X (.Compare a [op, op'] [b, c] pos) (wTest (wChain TR TR' wa wb wc)) := by
  obtain ⟨r, h1, h2⟩ := ho.ex
  obtain ⟨r', h1', h2'⟩ := ho'.ex
  refine ⟨PTw' (pt_chain h1 h1' ha.pe hb.pe hc.pe (hm := hm)) fun σ H Q h => ?_, wTest_mono fun s M Q Q' i z => ha.mono s M _ _ (fun x M1 q => hb.mono s M1 _ _ (fun y M2 q2 => ho.mono x y M2 _ _ (fun z M3 q3 => ?_) q2) q) z⟩
  · have h := test_read σ H Q h
    obtain ⟨G, M, s, Qt, S, R, z, k⟩ := h
    refine ⟨G, M, s, _, S, R, z, fun x M1 G1 H1 xv q e rx => ⟨G1, M1, s, _, e.st, R.mono e.gs, q, fun y M2 G2 H2 yv q2 e2 ry => ?_⟩⟩
    refine h2 G2 M2 H2 x y xv yv _ _ e2.st (rx.mono e2.gs) ry q2 fun t M3 G3 H3 tv q3 e3 rt => ?_
    cases t with
    | bl kk =>
      unfold Rep at rt
      refine ⟨kk, rt, ?_⟩
      cases kk with
      | true =>
        rw [if_pos rfl]
        refine ⟨G3, M3, s, _, e3.st, R.mono ((e.trans e2).trans e3).gs, q3.1 rfl, fun u M4 G4 H4 uv q4 e4 ru => ?_⟩
        exact h2' G4 M4 H4 y u yv uv _ _ e4.st ((ry.mono e3.gs).mono e4.gs) ru q4 fun t M5 G5 H5 v q5 e5 r5 => k t M5 G5 H5 v q5 ((((e.trans e2).trans e3).trans e4).trans e5) r5
      | false =>
        rw [if_neg Bool.false_ne_true]
        exact k _ M3 G3 H3 _ (q3.2 rfl) ((e.trans e2).trans e3) rep_bl
    | _ => cases q3
  · cases z with
    | bl k => exact ⟨fun e => hc.mono s M3 _ _ (fun u M4 q4 => ho'.mono y u M4 _ _ i q4) (q3.1 e), fun e => i _ _ (q3.2 e)⟩
    | _ => cases q3
end
end Tr

set_option Elab.async false
set_option linter.all false
set_option maxRecDepth 100000
set_option maxHeartbeats 4000000
namespace Tr
open PySem L2
open PyProof.Rows (sortedS)
/-! ### what an instance's class must have for isinstance -/
structure InsTy (K : PySem.W.Frag) (C : Addr) : Prop where
  cl : Cls K C
  ha : PySem.W.findIn K (.ref C) "__class__" = some (some (.builtin "object.__class__"))
  hn : PySem.W.specialIn K (.builtin "object.__class__") "__get__" = some (some (.builtin "getset_descriptor.__get__"))
  htk : PySem.W.takesIn K (.builtin "object.__class__") = some true
  hm : PySem.W.mroIn K C (.type "object") = some true
/-- a tree's type -/
def tyOO : OO → Value
  | .lst _ => .type "list"
  | .tup _ => .type "tuple"
  | .dic _ _ => .type "dict"
  | .ins C _ => .ref C
def tyT (M : Mh) : T → Option Value
  | .non => some (.type "NoneType")
  | .bl _ => some (.type "bool")
  | .int _ => some (.type "int")
  | .str _ => some (.type "str")
  | .ty _ => none
  | .adr a => (M a).map tyOO
  | .lst _ => some (.type "list")
  | .tup _ => some (.type "tuple")
  | .dic _ => some (.type "dict")
  | .ins C _ => some (.ref C)
theorem tyT_x {K : PySem.W.Frag} {G : Hp} {M : Mh} {H : Hp} (S : Stt G M H) {x : T} {xv : V} {t : Value} (r : Rep G x xv) (h : tyT M x = some t) (hi : ∀ C, t = .ref C → InsTy K C) : TyX K H xv t := by
  cases x with
  | non => unfold Rep at r; cases h; rw [r]; exact .base .non
  | bl b => unfold Rep at r; cases h; rw [r]; exact .base (.bl b)
  | int b => unfold Rep at r; cases h; rw [r]; exact .base (.int b)
  | str b => unfold Rep at r; cases h; rw [r]; exact .base (.str b)
  | ty n => cases h
  | lst ts =>
    obtain ⟨a, vs, rfl, ha, _⟩ := view_lst S r (ts := ts) rfl
    cases h
    exact .base (.lst ha)
  | tup ts =>
    obtain ⟨a, vs, rfl, ha, _⟩ := view_tup S r (ts := ts) rfl
    cases h
    exact .base (.tup ha)
  | dic kvs =>
    obtain ⟨a, vs, rfl, ha, _⟩ := view_dic S r (lk := .so) (kvs := kvs) rfl
    cases h
    rcases ha with ha | ⟨o, ha⟩
    · exact .base (.dK ha)
    · exact .fDict ha
  | ins C fs =>
    obtain ⟨a, dx, vs, rfl, ha, _⟩ := view_ins S r (C := C) (fs := fs) rfl
    cases h
    have z := hi C rfl
    exact .base (.ins ha z.cl z.ha z.hn z.htk z.hm)
  | adr a =>
    have h : (M a).map tyOO = some t := h
    cases e : M a with
    | none => rw [e] at h; cases h
    | some o =>
      rw [e] at h
      cases h
      cases o with
      | lst ts =>
        obtain ⟨b, vs, rfl, ha, _⟩ := view_lst S r (ts := ts) e
        exact .base (.lst ha)
      | tup ts =>
        obtain ⟨b, vs, rfl, ha, _⟩ := view_tup S r (ts := ts) e
        exact .base (.tup ha)
      | dic lk kvs =>
        obtain ⟨b, vs, rfl, ha, _⟩ := view_dic S r (lk := lk) (kvs := kvs) e
        rcases ha with ha | ⟨o, ha⟩
        · exact .base (.dK ha)
        · exact .fDict ha
      | ins C fs =>
        obtain ⟨b, dx, vs, rfl, ha, _⟩ := view_ins S r (C := C) (fs := fs) e
        have z := hi C rfl
        exact .base (.ins ha z.cl z.ha z.hn z.htk z.hm)
section
variable {X : Cx}
/-! ### calls of built-ins -/
structure CaT (X : Cx) (f : Value) (TR : List T → Mh → TQ → Prop) : Prop where
  ex : ∃ r : List V → Hp → VK → Prop, CallR X f r ∧ ∀ G M H ts vs Q Qv, Stt G M H → Reps G ts vs → TR ts M Q → QR G M H Q Qv → r vs H Qv
  mono : ∀ ts M Q Q', (∀ r M', Q r M' → Q' r M') → TR ts M Q → TR ts M Q'
def wCall (TR : List T → Mh → TQ → Prop) (u : WA) : WE := fun s M Q => u s M fun ts M1 => TR ts M1 Q
theorem wCall_mono {TR : List T → Mh → TQ → Prop} {u : WA} (hr : ∀ ts M Q Q', (∀ r M', Q r M' → Q' r M') → TR ts M Q → TR ts M Q') (ha : ∀ s M Q Q', (∀ r M', Q r M' → Q' r M') → u s M Q → u s M Q') :
    ∀ s M Q Q', (∀ r M', Q r M' → Q' r M') → wCall TR u s M Q → wCall TR u s M Q' := fun s M Q Q' i z => ha s M _ _ (fun ts M1 q => hr ts M1 _ _ i q) z
theorem call_read {TR : List T → Mh → TQ → Prop} {u : WA} {r : List V → Hp → VK → Prop} (hr : ∀ G M H ts vs Q Qv, Stt G M H → Reps G ts vs → TR ts M Q → QR G M H Q Qv → r vs H Qv) (σ : St) (H : Hp) (Q : VK) (h : lE (wCall TR u) σ H Q) :
    tCB r (lA u) σ H Q := by
  obtain ⟨G, M, s, Qt, S, R, w, k⟩ := h
  refine ⟨G, M, s, _, S, R, w, fun ts M1 G1 H1 vs q e rs => ?_⟩
  exact hr G1 M1 H1 ts vs Qt Q e.st rs q fun t M' G' H' v q e' rt => k t M' G' H' v q (e.trans e') rt
theorem qe_callB {TR : List T → Mh → TQ → Prop} {x : Str} {p pos : Pos} {e : Expr} {es : List Expr} {u : WA} {id : String} (hc : CaT X (.builtin id) TR) (hm : X.mg x = none) (ha : QA X (e :: es) u) (hv : bootBuiltins x = some (.builtin id) := by decide +kernel) (hg : Gl X x := by rfl)
    (hn : x ≠ "__name__" := by decide) (hdb : (x == ("__debug__" : Str)) = false := by decide)
    (he : starEach (e :: es) X.env = (false, eval e X.env) :: starEach es X.env := by rfl) (hpl : (backTo pos (starEach es X.env)).any (·.1) = false := by rfl) : QE X (.Call (.Name x p) (e :: es) [] pos) (wCall TR u) := by
  obtain ⟨r, h1, h2⟩ := hc.ex
  exact ⟨PEw (pe_callB h1 hg hm hv ha.pa hn hdb he hpl) (call_read h2), wCall_mono hc.mono ha.mono⟩
theorem qe_callTy {TR : List T → Mh → TQ → Prop} {x : Str} {p pos : Pos} {e : Expr} {es : List Expr} {u : WA} {n : String} (hc : CaT X (.type n) TR) (hm : X.mg x = none) (ha : QA X (e :: es) u) (hv : bootBuiltins x = some (.type n) := by decide +kernel) (hg : Gl X x := by rfl)
    (hn : x ≠ "__name__" := by decide) (hdb : (x == ("__debug__" : Str)) = false := by decide)
    (he : starEach (e :: es) X.env = (false, eval e X.env) :: starEach es X.env := by rfl) (hpl : (backTo pos (starEach es X.env)).any (·.1) = false := by rfl) : QE X (.Call (.Name x p) (e :: es) [] pos) (wCall TR u) := by
  obtain ⟨r, h1, h2⟩ := hc.ex
  exact ⟨PEw (pe_callTy h1 hg hm hv ha.pa hn hdb he hpl) (call_read h2), wCall_mono hc.mono ha.mono⟩

theorem reps1 {G : Hp} {t : T} {vs : List V} (r : Reps G [t] vs) : ∃ v, vs = [v] ∧ Rep G t v := by
  unfold Reps at r
  obtain ⟨v, q, rfl, r1, r2⟩ := r
  unfold Reps at r2
  subst r2
  exact ⟨v, rfl, r1⟩
theorem reps2 {G : Hp} {t u : T} {vs : List V} (r : Reps G [t, u] vs) : ∃ v w, vs = [v, w] ∧ Rep G t v ∧ Rep G u w := by
  unfold Reps at r
  obtain ⟨v, q, rfl, r1, r2⟩ := r
  obtain ⟨w, rfl, r3⟩ := reps1 r2
  exact ⟨v, w, rfl, r1, r3⟩
/-- one argument -/
def c1 (TR : T → Mh → TQ → Prop) : List T → Mh → TQ → Prop := fun ts M Q => match ts with
  | [t] => TR t M Q
  | _ => False
theorem ct_1 {f : Value} {TR : T → Mh → TQ → Prop} {r : List V → Hp → VK → Prop} (hr : CallR X f r) (h : ∀ G M H t v Q Qv, Stt G M H → Rep G t v → TR t M Q → QR G M H Q Qv → r [v] H Qv) (hm : ∀ t M Q Q', (∀ r M', Q r M' → Q' r M') → TR t M Q → TR t M Q') :
    CaT X f (c1 TR) := by
  refine ⟨⟨r, hr, fun G M H ts vs Q Qv S rs w k => ?_⟩, fun ts M Q Q' i w => ?_⟩
  · cases ts with
    | nil => cases w
    | cons t q =>
      cases q with
      | nil =>
        obtain ⟨v, rfl, r1⟩ := reps1 rs
        exact h G M H t v Q Qv S r1 w k
      | cons _ _ => cases w
  · cases ts with
    | nil => cases w
    | cons t q =>
      cases q with
      | nil => exact hm t M Q Q' i w
      | cons _ _ => cases w
/-- the items of a list or a tuple -/
def seqW (M : Mh) (t : T) (K : List T → Prop) : Prop := match view M t with
  | some (.lst xs) => K xs
  | some (.tup xs) => K xs
  | _ => False
theorem seqW_mono {M : Mh} {t : T} {K K' : List T → Prop} (i : ∀ xs, K xs → K' xs) (w : seqW M t K) : seqW M t K' := by
  unfold seqW at w ⊢
  cases e : view M t with
  | none => rw [e] at w; cases w
  | some o =>
    rw [e] at w
    cases o with
    | lst xs => exact i _ w
    | tup xs => exact i _ w
    | _ => cases w
theorem seqW_read {K : PySem.W.Frag} {G : Hp} {M : Mh} {H : Hp} (S : Stt G M H) {t : T} {v : V} (r : Rep G t v) {P : List T → Prop} (w : seqW M t P) : ∃ a xs vs, v = .ref a ∧ (SqL K H a vs ∨ SqT K H a vs) ∧ Reps G xs vs ∧ P xs := by
  unfold seqW at w
  cases e : view M t with
  | none => rw [e] at w; cases w
  | some o =>
    rw [e] at w
    cases o with
    | lst xs =>
      obtain ⟨a, vs, rfl, ha, r1⟩ := view_lst S r e
      exact ⟨a, xs, vs, rfl, .inl (SqL.of ha), r1, w⟩
    | tup xs =>
      obtain ⟨a, vs, rfl, ha, r1⟩ := view_tup S r e
      exact ⟨a, xs, vs, rfl, .inr (SqT.of ha), r1, w⟩
    | _ => cases w
/-- the items of a list -/
def lstW (M : Mh) (t : T) (K : List T → Prop) : Prop := match view M t with
  | some (.lst xs) => K xs
  | _ => False
theorem lstW_mono {M : Mh} {t : T} {K K' : List T → Prop} (i : ∀ xs, K xs → K' xs) (w : lstW M t K) : lstW M t K' := by
  unfold lstW at w ⊢
  cases e : view M t with
  | none => rw [e] at w; cases w
  | some o =>
    rw [e] at w
    cases o with
    | lst xs => exact i _ w
    | _ => cases w
theorem lstW_read {G : Hp} {M : Mh} {H : Hp} (S : Stt G M H) {t : T} {v : V} (r : Rep G t v) {P : List T → Prop} (w : lstW M t P) : ∃ a xs vs, v = .ref a ∧ H a = some (.lst vs) ∧ Reps G xs vs ∧ P xs := by
  unfold lstW at w
  cases e : view M t with
  | none => rw [e] at w; cases w
  | some o =>
    rw [e] at w
    cases o with
    | lst xs =>
      obtain ⟨a, vs, rfl, ha, r1⟩ := view_lst S r e
      exact ⟨a, xs, vs, rfl, ha, r1, w⟩
    | _ => cases w
/-- len -/
def trLen : T → Mh → TQ → Prop := fun t M Q => seqW M t fun xs => Q (.int (xs.length : Nat)) M
theorem ct_len : CaT X (.builtin "len") (c1 trLen) := ct_1 call_len_seq (fun G M H t v Q Qv S r w k => by
  obtain ⟨a, xs, vs, rfl, h, rs, q⟩ := seqW_read (K := X.K) S r w
  exact ⟨a, vs, rfl, h, by rw [← rs.len]; exact k.here S q rep_int⟩) fun t M Q Q' i w => seqW_mono (fun xs q => i _ _ q) w
def trLenS : T → Mh → TQ → Prop := fun t M Q => match t with
  | .str z => z.length ≤ 100000 ∧ Q (.int (z.length : Nat)) M
  | _ => False
theorem ct_lenS : CaT X (.builtin "len") (c1 trLenS) := ct_1 call_len (fun G M H t v Q Qv S r w k => by
  cases t with
  | str z =>
    unfold Rep at r
    subst r
    exact ⟨.str z, z.length, rfl, ⟨sz w.1, rfl⟩, k.here S w.2 rep_int⟩
  | _ => cases w) fun t M Q Q' i w => by
  cases t with
  | str z => exact ⟨w.1, i _ _ w.2⟩
  | _ => cases w
def trLenD : T → Mh → TQ → Prop := fun t M Q => match t with
  | .adr a => (match M a with
    | some (.dic .un kvs) => Q (.int (kvs.length : Nat)) M
    | _ => False)
  | _ => False
theorem ct_lenD : CaT X (.builtin "len") (c1 trLenD) := ct_1 call_lenD (fun G M H t v Q Qv S r w k => by
  cases t with
  | adr a =>
    unfold Rep at r
    subst r
    unfold trLenD at w
    dsimp only at w
    cases e : M a with
    | none => rw [e] at w; cases w
    | some o =>
      rw [e] at w
      cases o with
      | dic lk kvs =>
        cases lk with
        | so => cases w
        | lk _ _ => cases w
        | un =>
          obtain ⟨vs, h, rk⟩ := (S.own a _ e).2
          exact ⟨a, vs, rfl, h, by rw [rk.len]; exact k.here S w rep_int⟩
      | _ => cases w
  | _ => cases w) fun t M Q Q' i w => by
  cases t with
  | adr a =>
    unfold trLenD at w ⊢
    dsimp only at w ⊢
    cases e : M a with
    | none => rw [e] at w; cases w
    | some o =>
      rw [e] at w
      cases o with
      | dic lk kvs =>
        cases lk with
        | so => cases w
        | lk _ _ => cases w
        | un => exact i _ _ w
      | _ => cases w
  | _ => cases w
/-- list(x), tuple(x) of a list or a tuple -/
def trList : T → Mh → TQ → Prop := fun t M Q => seqW M t fun xs => Q (.lst xs) M
theorem ct_list : CaT X (.type "list") (c1 trList) := ct_1 call_list_of (fun G M H t v Q Qv S r w k => by
  obtain ⟨a, xs, vs, rfl, h, rs, q⟩ := seqW_read (K := X.K) S r w
  exact ⟨a, vs, rfl, h, fun l hl => k.lst S q rs hl⟩) fun t M Q Q' i w => seqW_mono (fun xs q => i _ _ q) w
/-- of a list, or of a solid tuple -/
def trTuple : T → Mh → TQ → Prop := fun t M Q => match t with
  | .tup xs => Q (.tup xs) M
  | t => lstW M t fun xs => Q (.tup xs) M
theorem ct_tuple : CaT X (.type "tuple") (c1 trTuple) := ct_1 call_tuple_of (fun G M H t v Q Qv S r w k => by
  have key : lstW M t (fun xs => Q (.tup xs) M) → ∃ p ys, [v] = [V.ref p] ∧ ((SqL X.K H p ys ∧ ∀ l, H l = none → Qv (.ref l) (upd H l (.tup ys))) ∨ (SqT X.K H p ys ∧ Qv (.ref p) H)) := fun w => by
    obtain ⟨a, xs, vs, rfl, h, rs, q⟩ := lstW_read S r w
    exact ⟨a, vs, rfl, .inl ⟨SqL.of h, fun l hl => k.tup S q rs hl⟩⟩
  cases t with
  | tup xs =>
    obtain ⟨a, vs, rfl, h, rs⟩ := view_tup S r (ts := xs) rfl
    exact ⟨a, vs, rfl, .inr ⟨SqT.of h, k.here S w r⟩⟩
  | _ => exact key w) fun t M Q Q' i w => by
  have key : lstW M t (fun xs => Q (.tup xs) M) → lstW M t (fun xs => Q' (.tup xs) M) := lstW_mono fun xs q => i _ _ q
  cases t with
  | tup xs => exact i _ _ w
  | _ => exact key w
/-- sum, max, all, any of a list -/
def trSum : T → Mh → TQ → Prop := fun t M Q => lstW M t fun xs => ∃ ns : List Int, xs = ns.map T.int ∧ Q (.int ns.sum) M
theorem ct_sum (hc : X.calm = true) : CaT X (.builtin "sum") (c1 trSum) := ct_1 (cr_sum hc) (fun G M H t v Q Qv S r w k => by
  obtain ⟨a, xs, vs, rfl, h, rs, ns, rfl, q⟩ := lstW_read S r w
  have e := Reps.ints rs
  subst e
  exact ⟨a, ns, rfl, SqL.of h, k.here S q rep_int⟩) fun t M Q Q' i w => lstW_mono (fun xs ⟨ns, e, q⟩ => ⟨ns, e, i _ _ q⟩) w
def trMax : T → Mh → TQ → Prop := fun t M Q => lstW M t fun xs => ∃ ns : List Int, xs = ns.map T.int ∧ ns ≠ [] ∧ ∀ m, m ∈ ns → (∀ y ∈ ns, y ≤ m) → Q (.int m) M
theorem ct_max (hc : X.calm = true) : CaT X (.builtin "max") (c1 trMax) := ct_1 (cr_max hc) (fun G M H t v Q Qv S r w k => by
  obtain ⟨a, xs, vs, rfl, h, rs, ns, rfl, hne, q⟩ := lstW_read S r w
  have e := Reps.ints rs
  subst e
  exact ⟨a, ns, rfl, SqL.of h, List.length_pos_iff.mpr hne, fun m h1 h2 => k.here S (q m h1 h2) rep_int⟩) fun t M Q Q' i w => lstW_mono (fun xs ⟨ns, e, hne, q⟩ => ⟨ns, e, hne, fun m h1 h2 => i _ _ (q m h1 h2)⟩) w
def trAll (g : List Bool → Bool) : T → Mh → TQ → Prop := fun t M Q => lstW M t fun xs => ∃ bs : List Bool, xs = bs.map T.bl ∧ Q (.bl (g bs)) M
theorem ct_all (hc : X.calm = true) : CaT X (.builtin "all") (c1 (trAll fun bs => bs.all id)) := ct_1 (cr_all hc) (fun G M H t v Q Qv S r w k => by
  obtain ⟨a, xs, vs, rfl, h, rs, ns, rfl, q⟩ := lstW_read S r w
  have e := Reps.bls rs
  subst e
  exact ⟨a, ns, rfl, SqL.of h, k.here S q rep_bl⟩) fun t M Q Q' i w => lstW_mono (fun xs ⟨ns, e, q⟩ => ⟨ns, e, i _ _ q⟩) w
theorem ct_any (hc : X.calm = true) : CaT X (.builtin "any") (c1 (trAll fun bs => bs.any id)) := ct_1 (cr_any hc) (fun G M H t v Q Qv S r w k => by
  obtain ⟨a, xs, vs, rfl, h, rs, ns, rfl, q⟩ := lstW_read S r w
  have e := Reps.bls rs
  subst e
  exact ⟨a, ns, rfl, SqL.of h, k.here S q rep_bl⟩) fun t M Q Q' i w => lstW_mono (fun xs ⟨ns, e, q⟩ => ⟨ns, e, i _ _ q⟩) w
/-- sorted of ints, of texts (fewer than 64), of a dict with text keys -/
def trSortI : T → Mh → TQ → Prop := fun t M Q => lstW M t fun xs => ∃ ns : List Int, xs = ns.map T.int ∧ ∀ ms : List Int, ms.Perm ns → ms.Pairwise (· ≤ ·) → Q (.lst (ms.map T.int)) M
theorem ct_sortI : CaT X (.builtin "sorted") (c1 trSortI) := ct_1 cr_sortedI (fun G M H t v Q Qv S r w k => by
  obtain ⟨a, xs, vs, rfl, h, rs, ns, rfl, q⟩ := lstW_read S r w
  have e := Reps.ints rs
  subst e
  exact ⟨a, ns, rfl, SqL.of h, fun ms p h1 h2 hp => k.lst S (q ms h1 h2) (Reps.of_ints ms) hp⟩) fun t M Q Q' i w => lstW_mono (fun xs ⟨ns, e, q⟩ => ⟨ns, e, fun ms h1 h2 => i _ _ (q ms h1 h2)⟩) w
def trSortS : T → Mh → TQ → Prop := fun t M Q => lstW M t fun xs => ∃ ns : List Str, xs = ns.map T.str ∧ ns.length < 64 ∧ ∀ ms : List Str, ms.Perm ns → sortedS ms = true → Q (.lst (ms.map T.str)) M
theorem ct_sortS : CaT X (.builtin "sorted") (c1 trSortS) := ct_1 cr_sortedS (fun G M H t v Q Qv S r w k => by
  obtain ⟨a, xs, vs, rfl, h, rs, ns, rfl, hl, q⟩ := lstW_read S r w
  have e := Reps.strs rs
  subst e
  exact ⟨a, ns, rfl, SqL.of h, hl, fun ms p h1 h2 hp => k.lst S (q ms h1 h2) (Reps.of_strs ms) hp⟩) fun t M Q Q' i w => lstW_mono (fun xs ⟨ns, e, hl, q⟩ => ⟨ns, e, hl, fun ms h1 h2 => i _ _ (q ms h1 h2)⟩) w
def trSortD : T → Mh → TQ → Prop := fun t M Q => match view M t with
  | some (.dic _ kvs) => ∃ ks : List Str, kvs.map (·.1) = ks.map Sum.inr ∧ ks.length < 64 ∧ ∀ ms : List Str, ms.Perm ks → sortedS ms = true → Q (.lst (ms.map T.str)) M
  | _ => False
theorem ct_sortD (hc : X.calm = true) : CaT X (.builtin "sorted") (c1 trSortD) := ct_1 (call_sortedD hc) (fun G M H t v Q Qv S r w k => by
  unfold trSortD at w
  cases e : view M t with
  | none => rw [e] at w; cases w
  | some o =>
    rw [e] at w
    cases o with
    | dic lk kvs =>
      obtain ⟨ks, e1, hl, q⟩ := w
      obtain ⟨a, vs, rfl, ha, rk⟩ := view_dic S r e
      exact ⟨a, vs, ks, rfl, ha, by rw [rk.keys, e1], hl, fun ms p h1 h2 hp => k.lst S (q ms h1 h2) (Reps.of_strs ms) hp⟩
    | _ => cases w) fun t M Q Q' i w => by
  unfold trSortD at w ⊢
  cases e : view M t with
  | none => rw [e] at w; cases w
  | some o =>
    rw [e] at w
    cases o with
    | dic lk kvs =>
      obtain ⟨ks, e1, hl, q⟩ := w
      exact ⟨ks, e1, hl, fun ms h1 h2 => i _ _ (q ms h1 h2)⟩
    | _ => cases w
/-- int(bool) -/
def trIntB : T → Mh → TQ → Prop := fun t M Q => match t with
  | .bl b => Q (.int (if b then 1 else 0)) M
  | _ => False
theorem ct_intB : CaT X (.type "int") (c1 trIntB) := ct_1 call_int1 (fun G M H t v Q Qv S r w k => by
  cases t with
  | bl b =>
    unfold Rep at r
    subst r
    exact .inr ⟨b, rfl, k.here S w rep_int⟩
  | _ => cases w) fun t M Q Q' i w => by
  cases t with
  | bl b => exact i _ _ w
  | _ => cases w
/-- list(d), dict(d), dict(pairs) -/
def keyV : Key → T
  | .inl i => .int i
  | .inr z => .str z
theorem reps_keys {G : Hp} : ∀ ks : List Key, Reps G (ks.map keyV) (ks.map kV)
  | [] => Reps.nil
  | .inl i :: ks => Reps.cons rep_int (reps_keys ks)
  | .inr i :: ks => Reps.cons rep_str (reps_keys ks)
def trListD : T → Mh → TQ → Prop := fun t M Q => match view M t with
  | some (.dic _ kvs) => Q (.lst ((kvs.map (·.1)).map keyV)) M
  | _ => False
theorem ct_listD (hc : X.calm = true) : CaT X (.type "list") (c1 trListD) := ct_1 (call_listD hc) (fun G M H t v Q Qv S r w k => by
  unfold trListD at w
  cases e : view M t with
  | none => rw [e] at w; cases w
  | some o =>
    rw [e] at w
    cases o with
    | dic lk kvs =>
      obtain ⟨a, vs, rfl, ha, rk⟩ := view_dic S r e
      refine ⟨a, vs, rfl, ha, fun p hp => ?_⟩
      have e2 : (vs.map fun q => kV q.1) = (kvs.map (·.1)).map kV := by rw [rk.map_keys, List.map_map]; rfl
      rw [e2]
      exact k.lst S w (reps_keys _) hp
    | _ => cases w) fun t M Q Q' i w => by
  unfold trListD at w ⊢
  cases e : view M t with
  | none => rw [e] at w; cases w
  | some o =>
    rw [e] at w
    cases o with
    | dic lk kvs => exact i _ _ w
    | _ => cases w
/-- a copy, owned -/
def trDictD : T → Mh → TQ → Prop := fun t M Q => match view M t with
  | some (.dic _ kvs) => ∀ l, M l = none → Q (.adr l) (mset M l (.dic .un kvs))
  | _ => False
theorem ct_dictD : CaT X (.type "dict") (c1 trDictD) := ct_1 call_dictD (fun G M H t v Q Qv S r w k => by
  unfold trDictD at w
  cases e : view M t with
  | none => rw [e] at w; cases w
  | some o =>
    rw [e] at w
    cases o with
    | dic lk kvs =>
      obtain ⟨a, vs, rfl, ha, rk⟩ := view_dic S r e
      refine ⟨a, vs, rfl, ha, fun p hp => ?_⟩
      exact k _ _ _ _ _ (w p (S.mnone hp)) (Ext.owned S (o := .dic .un kvs) hp ⟨vs, upd_same, rk⟩) rep_adr
    | _ => cases w) fun t M Q Q' i w => by
  unfold trDictD at w ⊢
  cases e : view M t with
  | none => rw [e] at w; cases w
  | some o =>
    rw [e] at w
    cases o with
    | dic lk kvs => exact fun l hl => i _ _ (w l hl)
    | _ => cases w
/-- the pairs of a solid list of pairs -/
def kmerge (kvs more : List (Key × T)) : List (Key × T) := more.foldl (fun acc q => kput q.1 q.2 acc) kvs
theorem RepK.merge {G : Hp} : ∀ {ms : List (Key × T)} {ws : List (Key × V)} {ts : List (Key × T)} {vs : List (Key × V)}, RepK G ts vs → RepK G ms ws → RepK G (kmerge ts ms) (mergeK vs ws)
  | [], ws, ts, vs, r, s => by unfold RepK at s; subst s; exact r
  | (j, t) :: ms, ws, ts, vs, r, s => by
    unfold RepK at s
    obtain ⟨v, q, rfl, s1, s2⟩ := s
    show RepK G (kmerge (kput j t ts) ms) (mergeK (putK vs j v) q)
    exact RepK.merge (RepK.put s1 r) s2
def trDictP : T → Mh → TQ → Prop := fun t M Q => match t with
  | .lst xs => ∃ ps : List (Key × T), xs = ps.map (fun q => T.tup [keyV q.1, q.2]) ∧ Q (.dic (kmerge [] ps)) M
  | _ => False
theorem pairs_read {K : PySem.W.Frag} {G H : Hp} (g : Same G H) : ∀ {ps : List (Key × T)} {vs : List V}, Reps G (ps.map fun q => T.tup [keyV q.1, q.2]) vs → ∃ (as : List Addr) (kvs : List (Key × V)), vs = as.map V.ref ∧ Paired (fun p kv => SqT K H p [kV kv.1, kv.2]) as kvs ∧ RepK G ps kvs
  | [], vs, r => by
    have r : Reps G [] vs := r
    unfold Reps at r
    subst r
    exact ⟨[], [], rfl, .nil, RepK.nil⟩
  | (j, t) :: ps, vs, r => by
    have r : Reps G (T.tup [keyV j, t] :: ps.map fun q => T.tup [keyV q.1, q.2]) vs := r
    unfold Reps at r
    obtain ⟨v, q, rfl, r1, r2⟩ := r
    obtain ⟨as, kvs, rfl, h1, h2⟩ := pairs_read g r2
    unfold Rep at r1
    obtain ⟨a, us, rfl, ha, ru⟩ := r1
    obtain ⟨u1, u2, rfl, q1, q2⟩ := reps2 ru
    have e : u1 = kV j := by
      cases j with
      | inl i => unfold keyV Rep at q1; exact q1
      | inr z => unfold keyV Rep at q1; exact q1
    subst e
    exact ⟨a :: as, (j, u2) :: kvs, rfl, .cons (SqT.of (g _ _ ha)) h1, RepK.cons q2 h2⟩
theorem ct_dictP (hc : X.calm = true) : CaT X (.type "dict") (c1 trDictP) := ct_1 (call_dictP hc) (fun G M H t v Q Qv S r w k => by
  cases t with
  | lst xs =>
    obtain ⟨ps, rfl, q⟩ := w
    unfold Rep at r
    obtain ⟨a, vs, rfl, ha, rs⟩ := r
    obtain ⟨as, kvs, rfl, h1, h2⟩ := pairs_read (K := X.K) S.gh rs
    refine ⟨a, as, kvs, rfl, SqL.of (S.gh _ _ ha), h1, fun p hp => ?_⟩
    have x := Ext.solid S (o := .dK (mergeK [] kvs)) hp
    exact k _ M _ _ _ q x (by unfold Rep; exact ⟨p, _, rfl, upd_same, RepK.mono x.gs (RepK.merge RepK.nil h2)⟩)
  | _ => cases w) fun t M Q Q' i w => by
  cases t with
  | lst xs =>
    obtain ⟨ps, e, q⟩ := w
    exact ⟨ps, e, i _ _ q⟩
  | _ => cases w
/-! two arguments -/
def c2 (TR : T → T → Mh → TQ → Prop) : List T → Mh → TQ → Prop := fun ts M Q => match ts with
  | [t, u] => TR t u M Q
  | _ => False
theorem ct_2 {f : Value} {TR : T → T → Mh → TQ → Prop} {r : List V → Hp → VK → Prop} (hr : CallR X f r) (h : ∀ G M H t u v w Q Qv, Stt G M H → Rep G t v → Rep G u w → TR t u M Q → QR G M H Q Qv → r [v, w] H Qv) (hm : ∀ t u M Q Q', (∀ r M', Q r M' → Q' r M') → TR t u M Q → TR t u M Q') :
    CaT X f (c2 TR) := by
  refine ⟨⟨r, hr, fun G M H ts vs Q Qv S rs w k => ?_⟩, fun ts M Q Q' i w => ?_⟩
  · match ts, rs, w with
    | [t, u], rs, w =>
      obtain ⟨v, w', rfl, r1, r2⟩ := reps2 rs
      exact h G M H t u v w' Q Qv S r1 r2 w k
  · match ts, w with
    | [t, u], w => exact hm t u M Q Q' i w
def tr2I (C : Int → Int → Prop) (g : Int → Int → T) : T → T → Mh → TQ → Prop := fun x y M Q => match x, y with
  | .int i, .int j => C i j ∧ Q (g i j) M
  | _, _ => False
theorem tr2I_mono {C : Int → Int → Prop} {g : Int → Int → T} (x y : T) (M : Mh) (Q Q' : TQ) (i : ∀ r M', Q r M' → Q' r M') (w : tr2I C g x y M Q) : tr2I C g x y M Q' := by
  cases x with
  | int a =>
    cases y with
    | int b => exact ⟨w.1, i _ _ w.2⟩
    | _ => cases w
  | _ => cases w
theorem ct_divmod : CaT X (.builtin "divmod") (c2 (tr2I CDiv fun i j => .tup [.int (i / j), .int (i % j)])) := ct_2 call_divmod (fun G M H t u v w Q Qv S r1 r2 z k => by
  cases t with
  | int a =>
    cases u with
    | int b =>
      unfold Rep at r1 r2
      subst r1 r2
      exact ⟨a, b, rfl, z.1, fun p hp => k.tup S z.2 (Reps.cons rep_int (Reps.cons rep_int Reps.nil)) hp⟩
    | _ => cases z
  | _ => cases z) tr2I_mono
theorem ct_max2 (hc : X.calm = true) : CaT X (.builtin "max") (c2 (tr2I (fun _ _ => True) fun i j => .int (if j > i then j else i))) := ct_2 (call_max2 hc) (fun G M H t u v w Q Qv S r1 r2 z k => by
  cases t with
  | int a =>
    cases u with
    | int b =>
      unfold Rep at r1 r2
      subst r1 r2
      exact ⟨a, b, rfl, k.here S z.2 rep_int⟩
    | _ => cases z
  | _ => cases z) tr2I_mono
theorem ct_min2 (hc : X.calm = true) : CaT X (.builtin "min") (c2 (tr2I (fun _ _ => True) fun i j => .int (if j < i then j else i))) := ct_2 (call_min2 hc) (fun G M H t u v w Q Qv S r1 r2 z k => by
  cases t with
  | int a =>
    cases u with
    | int b =>
      unfold Rep at r1 r2
      subst r1 r2
      exact ⟨a, b, rfl, k.here S z.2 rep_int⟩
    | _ => cases z
  | _ => cases z) tr2I_mono
/-- isinstance: of one class, of a tuple of classes -/
def clsT : T → Option Value
  | .ty n => some (.type n)
  | .adr C => some (.ref C)
  | _ => none
def clsTs : List T → Option (List Value)
  | [] => some []
  | t :: r => match clsT t, clsTs r with
    | some u, some us => some (u :: us)
    | _, _ => none
theorem clsT_v {G : Hp} {t : T} {v : V} {u : Value} (r : Rep G t v) (h : clsT t = some u) : ClsV v u := by
  cases t with
  | ty n => cases h; unfold Rep at r; subst r; exact .ty n
  | adr C => cases h; unfold Rep at r; subst r; exact .own C
  | _ => cases h
theorem clsTs_v {G : Hp} : ∀ {ts : List T} {vs : List V} {us : List Value}, Reps G ts vs → clsTs ts = some us → Paired ClsV vs us
  | [], _, _, r, h => by unfold Reps at r; subst r; cases h; exact .nil
  | t :: ts, _, us, r, h => by
    unfold Reps at r
    obtain ⟨v, q, rfl, r1, r2⟩ := r
    unfold clsTs at h
    cases e1 : clsT t with
    | none => rw [e1] at h; cases h
    | some u =>
      cases e2 : clsTs ts with
      | none => rw [e1, e2] at h; cases h
      | some us =>
        rw [e1, e2] at h
        cases h
        exact .cons (clsT_v r1 e1) (clsTs_v r2 e2)
def trIsi (K : PySem.W.Frag) : T → T → Mh → TQ → Prop := fun x c M Q => ∃ (t : Value) (b : Bool), tyT M x = some t ∧ (∀ C, t = .ref C → InsTy K C) ∧ (match c with
  | .tup cs => (match clsTs cs with
    | some us => PySem.W.kitAny K t us = some b
    | none => False)
  | _ => (match clsT c with
    | some u => PySem.W.kitOne K t u = some b
    | none => False)) ∧ Q (.bl b) M
theorem OrCall {f : Value} {r r' : List V → Hp → VK → Prop} (h : CallR X f r) (h' : CallR X f r') : CallR X f fun vs H Q => r vs H Q ∨ r' vs H Q := fun pins s σ H xs us Q I rv q => q.elim (h pins s σ H xs us Q I rv) (h' pins s σ H xs us Q I rv)
theorem ct_isi : CaT X (.builtin "isinstance") (c2 (trIsi X.K)) := ct_2 (OrCall call_isi call_isiT) (fun G M H t u v w Q Qv S r1 r2 z k => by
  obtain ⟨ty, b, h1, h2, h3, q⟩ := z
  have hx := tyT_x S r1 h1 h2
  cases u with
  | tup cs =>
    obtain ⟨a, vs, rfl, ha, rs⟩ := view_tup S r2 (ts := cs) rfl
    dsimp only at h3
    cases e : clsTs cs with
    | none => rw [e] at h3; cases h3
    | some us =>
      rw [e] at h3
      exact .inr ⟨v, a, vs, ty, us, b, rfl, ha, clsTs_v rs e, hx, h3, k.here S q rep_bl⟩
  | ty n => exact .inl ⟨v, w, ty, _, b, rfl, clsT_v r2 rfl, hx, h3, k.here S q rep_bl⟩
  | adr C => exact .inl ⟨v, w, ty, _, b, rfl, clsT_v r2 rfl, hx, h3, k.here S q rep_bl⟩
  | _ => cases h3) fun t u M Q Q' i w => by
  obtain ⟨ty, b, h1, h2, h3, q⟩ := w
  exact ⟨ty, b, h1, h2, h3, i _ _ q⟩
end
end Tr

set_option Elab.async false
set_option linter.all false
set_option maxRecDepth 100000
set_option maxHeartbeats 4000000
namespace Tr
open PySem L2
open PyProof.Rows (envOfC)
/-! ### promises over trees -/
abbrev TSpec := List T → Mh → TQ → Prop
/-- closed upward -/
def cl (F : TSpec) (ts : List T) (M : Mh) (Q : TQ) : Prop := ∃ Q0, F ts M Q0 ∧ ∀ r M', Q0 r M' → Q r M'
theorem cl_of {F : TSpec} {ts : List T} {M : Mh} {Q : TQ} (h : F ts M Q) : cl F ts M Q := ⟨Q, h, fun _ _ q => q⟩
theorem cl_mono {F : TSpec} {ts : List T} {M : Mh} {Q Q' : TQ} (i : ∀ r M', Q r M' → Q' r M') (h : cl F ts M Q) : cl F ts M Q' := by
  obtain ⟨Q0, a, b⟩ := h
  exact ⟨Q0, a, fun r M' q => i _ _ (b r M' q)⟩
def spT (n : Nat) (F : TSpec) : Sp := fun vs H Q _ => vs.length = n ∧ ∃ G M ts Qt, Stt G M H ∧ Reps G ts vs ∧ F ts M Qt ∧ QR G M H Qt Q
theorem spT_cl {n : Nat} {F : TSpec} {vs : List V} {G H : Hp} {M : Mh} {ts : List T} {Qt : TQ} {Q : VK} {E : XK} (hl : vs.length = n) (S : Stt G M H) (r : Reps G ts vs) (h : cl F ts M Qt) (k : QR G M H Qt Q) : spT n F vs H Q E := by
  obtain ⟨Q0, a, b⟩ := h
  exact ⟨hl, G, M, ts, Q0, S, r, a, fun t M' G' H' v q e rt => k t M' G' H' v (b _ _ q) e rt⟩
/-- how a body ends -/
def endsF (Q : TQ) : EndsT := { nx := fun _ M' => ∃ M2, Msub M2 M' ∧ Q .non M2, rt := fun r M' => ∃ M2, Msub M2 M' ∧ Q r M2 }
def startT (N : List Str) (ts : List T) : TSt := ts.map some ++ List.replicate (N.length - ts.length) none
section
variable {P : Program} {w : World} {K : PySem.W.Frag} {mg : Str → Option Value} {base : Heap} {x qual : Str} {params : Arguments} {body : List Stmt} {scope : Scope} {dvs : List V} {kws : List (Str × V)} {f : Addr} {fd : FuncData}
/-- THE RULE for a def, over trees -/
theorem fnT {N ps : List Str} {k n : Nat} {F : TSpec} (FD : FunD K x qual params body scope dvs kws f fd) (S : FnScope N ps scope) (hn : ps.length = n)
    (hbody : ∀ (cdv : Value) (A : Around) (outer : List Env) (s : Shared) (H : Hp) (E : XK), Room k (A.deeper (envOfC qual scope s.heap.objs.size f cdv)) →
      ∃ w0, QSs (cxOf CX0 P w K mg base N qual scope f cdv A outer s H E).nox body w0 ∧ ∀ ts M Q, ts.length = n → F ts M Q → w0 (endsF Q) (startT N ts) M) :
    FnOk P w K mg base CX0 (k + 1) f fd ps (spT n F) := by
  refine FD.ok S (fun vs H Q E h => h.1.trans hn.symm) fun cdv A outer s H vs Q E hr h => ?_
  obtain ⟨hl, G, M, ts, Qt, St0, r, hF, kq⟩ := h
  obtain ⟨w0, hq, hw⟩ := hbody cdv A outer s H E hr
  refine ⟨_, hq.ps.nox, G, M, startT N ts, endsF Qt, St0, ?_, hw ts M Qt (r.len.trans hl) hF, ?_, ?_, fun _ _ _ _ _ q => q.elim, fun _ _ _ _ _ q => q.elim⟩
  · unfold startT L2.start
    rw [← r.len]
    exact RepS.start _ r
  · rintro s' M' G' H' σ' ⟨M2, sub, q⟩ e _
    exact kq .non M2 G' H' .non q (e.drop sub) rep_non
  · rintro t M' G' H' v ⟨M2, sub, q⟩ e rt
    exact kq t M2 G' H' v q (e.drop sub) rt
end
section
variable {X : Cx}
/-! ### calls of own defs -/
def wFn (n : Nat) (F : TSpec) (u : WA) : WE := fun s M Q => u s M fun ts M1 => ts.length = n ∧ cl F ts M1 Q
theorem wFn_mono {n : Nat} {F : TSpec} {u : WA} (hu : ∀ s M Q Q', (∀ r M', Q r M' → Q' r M') → u s M Q → u s M Q') : ∀ s M Q Q', (∀ r M', Q r M' → Q' r M') → wFn n F u s M Q → wFn n F u s M Q' :=
  fun s M Q Q' i z => hu s M _ _ (fun ts M1 q => ⟨q.1, cl_mono i q.2⟩) z
theorem fn_read {n : Nat} {F : TSpec} {u : WA} (σ : St) (H : Hp) (Q : VK) (h : lE (wFn n F u) σ H Q) : tCall (spT n F) [] E0 (lA u) σ H Q := by
  obtain ⟨G, M, s, Qt, S, R, w, k⟩ := h
  refine ⟨G, M, s, _, S, R, w, fun ts M1 G1 H1 vs q e rs => ?_⟩
  show spT n F (vs ++ []) H1 Q E0
  rw [List.append_nil]
  exact spT_cl (rs.len.symm.trans q.1) e.st rs q.2 fun t M' G' H' v q' e' rt => k t M' G' H' v q' (e.trans e') rt
theorem qe_call {k n : Nat} {F : TSpec} {f : Addr} {fd : FuncData} {ps : List Str} {x : Str} {p pos : Pos} {e : Expr} {es : List Expr} {u : WA} (Fk : FnOk X.prog X.w X.K X.mg X.base CX0 k f fd ps (spT n F)) (hr : Room k X.A) (hm : X.mg x = some (.ref f))
    (hk : PySem.W.keepIn X.K (.ref f) = true) (hb : Binds X.K fd ps []) (ha : QA X (e :: es) u) (hg : Gl X x := by rfl) (hdb : (x == ("__debug__" : Str)) = false := by decide)
    (he : starEach (e :: es) X.env = (false, eval e X.env) :: starEach es X.env := by rfl) (hpl : (backTo pos (starEach es X.env)).any (·.1) = false := by rfl) : QE X (.Call (.Name x p) (e :: es) [] pos) (wFn n F u) :=
  ⟨PEw (pe_call Fk hr hg hm hk hb .nil pass0 ha.pa hdb he hpl) fn_read, wFn_mono ha.mono⟩
/-- a method that any of some classes has -/
structure MethOk (X : Cx) (C : Addr) (m : Str) (n : Nat) (F : TSpec) : Prop where
  ex : ∃ (f : Addr) (fd : FuncData) (ps : List Str) (k : Nat), Cls X.K C ∧ Meth X.K C m f ∧ FnOk X.prog X.w X.K X.mg X.base CX0 k f fd ps (spT n F) ∧ Room k X.A ∧ Binds X.K fd ps []
def tMethD (Cs : Addr → Prop) (m : Str) (sp : Sp) (ta : TE) (t : TA) : TE := fun σ H Q => ta σ H fun x H1 => ∃ a C dx fs, x = .ref a ∧ H1 a = some (.ins C dx fs) ∧ Cs C ∧ fs.lookup m = none ∧ t σ H1 fun vs H2 => sp (x :: vs) H2 Q E0
theorem pe_methD {Cs : Addr → Prop} {m : Str} {n : Nat} {F : TSpec} {o e : Expr} {es : List Expr} {ta : TE} {t : TA} {apos pos : Pos} {pl : Sem Bool} (hOk : ∀ C, Cs C → MethOk X C m n F) (he : PE X o ta) (ha : PA X (e :: es) t)
    (hst : starEach (e :: es) X.env = (false, eval e X.env) :: starEach es X.env := by rfl) (hpl : (backTo pos (starEach es X.env)).any (·.1) = false := by rfl)
    (ht : eval (.Call (.Attribute o m apos) (e :: es) [] pos) X.env = (do
      let ov ← eval o X.env
      standAt apos.atName
      let (f, first) ← holding [ov] (getMethod ov m pl)
      callWith pos f first (backTo pos (starEach (e :: es) X.env)) (backToKw pos (keywordEach [] X.env))) := by rfl) :
    PE X (.Call (.Attribute o m apos) (e :: es) [] pos) (tMethD Cs m (spT n F) ta t) := by
  constructor
  intro pins s σ H Q I h
  refine PySem.W.methodCall_KW (pl := pl) (thn (he.run pins s σ H _ I h) fun u s1 hu => ?_) ht
  obtain ⟨x, H1, I1, rx, a, C, dx, fs, ex, ea, hC, l, q⟩ := hu
  obtain ⟨f, fd, ps, k, c, hm, Fk, hr, hb⟩ := (hOk C hC).ex
  cases ex
  cases rx
  refine getmeth_ok I1 ea c hm l ?_
  refine PySem.W.callWith_K (first := [.ref a]) (h₀ := X.base) I.ok.mod.kin hm.kp (thn (ha.run pos pins s1 σ H1 _ I1 q) fun us s2 hv => ?_) hst hpl
  obtain ⟨vs, H2, I2, r, q2⟩ := hv
  refine ⟨I2.kIn, run_fn (us := .ref a :: us) (vs := .ref a :: vs) Fk hr hb .nil pass0 I2 (.cons rfl r) ?_⟩
  rw [List.append_nil]
  exact q2
theorem pe_methD0 {Cs : Addr → Prop} {m : Str} {n : Nat} {F : TSpec} {o : Expr} {ta : TE} {apos pos : Pos} {pl : Sem Bool} (hOk : ∀ C, Cs C → MethOk X C m n F) (he : PE X o ta)
    (ht : eval (.Call (.Attribute o m apos) [] [] pos) X.env = (do
      let ov ← eval o X.env
      standAt apos.atName
      let (f, first) ← holding [ov] (getMethod ov m pl)
      callWith pos f first (backTo pos (starEach [] X.env)) (backToKw pos (keywordEach [] X.env))) := by rfl) :
    PE X (.Call (.Attribute o m apos) [] [] pos) (tMethD Cs m (spT n F) ta tNil) := by
  constructor
  intro pins s σ H Q I h
  refine PySem.W.methodCall_KW (pl := pl) (thn (he.run pins s σ H _ I h) fun u s1 hu => ?_) ht
  obtain ⟨x, H1, I1, rx, a, C, dx, fs, ex, ea, hC, l, q⟩ := hu
  obtain ⟨f, fd, ps, k, c, hm, Fk, hr, hb⟩ := (hOk C hC).ex
  cases ex
  cases rx
  refine getmeth_ok I1 ea c hm l ?_
  exact PySem.W.callWith_K0 (first := [.ref a]) I1.kIn hm.kp (run_fn (us := [.ref a]) (vs := [.ref a]) Fk hr hb .nil pass0 I1 (.cons rfl .nil) q)
def methW (Cs : Addr → Prop) (m : Str) (K : Prop) : Option OO → Prop
  | some (.ins C fs) => Cs C ∧ fs.lookup m = none ∧ K
  | _ => False
theorem methW_mono {Cs : Addr → Prop} {m : Str} {K K' : Prop} (i : K → K') : ∀ {o : Option OO}, methW Cs m K o → methW Cs m K' o
  | none, w => w
  | some (.lst _), w => w
  | some (.tup _), w => w
  | some (.dic _ _), w => w
  | some (.ins _ _), w => ⟨w.1, w.2.1, i w.2.2⟩
theorem methW_out {Cs : Addr → Prop} {m : Str} {K : Prop} : ∀ {o : Option OO}, methW Cs m K o → ∃ C fs, o = some (.ins C fs) ∧ Cs C ∧ fs.lookup m = none ∧ K
  | none, w => w.elim
  | some (.lst _), w => w.elim
  | some (.tup _), w => w.elim
  | some (.dic _ _), w => w.elim
  | some (.ins C fs), w => ⟨C, fs, rfl, w⟩
def wMeth (Cs : Addr → Prop) (m : Str) (n : Nat) (F : TSpec) (wo : WE) (u : WA) : WE := fun s M Q => wo s M fun t M1 => methW Cs m (u s M1 fun ts M2 => ts.length + 1 = n ∧ cl F (t :: ts) M2 Q) (view M1 t)
theorem wMeth_mono {Cs : Addr → Prop} {m : Str} {n : Nat} {F : TSpec} {wo : WE} {u : WA} (ho : ∀ s M Q Q', (∀ r M', Q r M' → Q' r M') → wo s M Q → wo s M Q') (hu : ∀ s M Q Q', (∀ r M', Q r M' → Q' r M') → u s M Q → u s M Q') :
    ∀ s M Q Q', (∀ r M', Q r M' → Q' r M') → wMeth Cs m n F wo u s M Q → wMeth Cs m n F wo u s M Q' :=
  fun s M Q Q' i z => ho s M _ _ (fun t M1 q => methW_mono (fun z => hu s M1 _ _ (fun ts M2 q2 => ⟨q2.1, cl_mono i q2.2⟩) z) q) z
theorem meth_read {Cs : Addr → Prop} {m : Str} {n : Nat} {F : TSpec} {wo : WE} {u : WA} {tu : TA} (hu : ∀ σ H Q, lA u σ H Q → tu σ H Q) (σ : St) (H : Hp) (Q : VK) (h : lE (wMeth Cs m n F wo u) σ H Q) : tMethD Cs m (spT n F) (lE wo) tu σ H Q := by
  obtain ⟨G, M, s, Qt, S, R, w, k⟩ := h
  refine ⟨G, M, s, _, S, R, w, fun t M1 G1 H1 v q e r => ?_⟩
  obtain ⟨C, fs, ev, hC, hl, q⟩ := methW_out q
  obtain ⟨a, dx, vs, rfl, ha, rf⟩ := view_ins e.st r ev
  refine ⟨a, C, dx, vs, rfl, ha, hC, rf.none hl, hu σ H1 _ ⟨G1, M1, s, _, e.st, R.mono e.gs, q, fun ts M2 G2 H2 us q2 e2 rs => ?_⟩⟩
  refine spT_cl ?_ e2.st (Reps.cons (r.mono e2.gs) rs) q2.2 fun t' M' G' H' v q' e' rt => k t' M' G' H' v q' ((e.trans e2).trans e') rt
  show us.length + 1 = n
  rw [← rs.len]
  exact q2.1
theorem qe_meth {Cs : Addr → Prop} {m : Str} {n : Nat} {F : TSpec} {o e : Expr} {es : List Expr} {wo : WE} {u : WA} {apos pos : Pos} {pl : Sem Bool} (hOk : ∀ C, Cs C → MethOk X C m n F) (he : QE X o wo) (ha : QA X (e :: es) u)
    (hst : starEach (e :: es) X.env = (false, eval e X.env) :: starEach es X.env := by rfl) (hpl : (backTo pos (starEach es X.env)).any (·.1) = false := by rfl)
    (ht : eval (.Call (.Attribute o m apos) (e :: es) [] pos) X.env = (do
      let ov ← eval o X.env
      standAt apos.atName
      let (f, first) ← holding [ov] (getMethod ov m pl)
      callWith pos f first (backTo pos (starEach (e :: es) X.env)) (backToKw pos (keywordEach [] X.env))) := by rfl) :
    QE X (.Call (.Attribute o m apos) (e :: es) [] pos) (wMeth Cs m n F wo u) :=
  ⟨PEw (pe_methD hOk he.pe ha.pa hst hpl ht) (meth_read fun σ H Q h => h), wMeth_mono he.mono ha.mono⟩
theorem qe_meth0 {Cs : Addr → Prop} {m : Str} {n : Nat} {F : TSpec} {o : Expr} {wo : WE} {apos pos : Pos} {pl : Sem Bool} (hOk : ∀ C, Cs C → MethOk X C m n F) (he : QE X o wo)
    (ht : eval (.Call (.Attribute o m apos) [] [] pos) X.env = (do
      let ov ← eval o X.env
      standAt apos.atName
      let (f, first) ← holding [ov] (getMethod ov m pl)
      callWith pos f first (backTo pos (starEach [] X.env)) (backToKw pos (keywordEach [] X.env))) := by rfl) :
    QE X (.Call (.Attribute o m apos) [] [] pos) (wMeth Cs m n F wo wNil) :=
  ⟨PEw (pe_methD0 hOk he.pe ht) (meth_read fun σ H Q ⟨G, M, s, Qt, S, R, w, k⟩ => k [] M G H [] w (Ext.refl S) Reps.nil), wMeth_mono he.mono qa_nil.mono⟩
where qa_nil : QA X [] wNil := Tr.qa_nil
/-! ### a new instance -/
theorem Ext.made {G H : Hp} {M : Mh} (S : Stt G M H) {x dx C : Addr} (hx : H x = none) (hd : H dx = none) (ne : dx ≠ x) : Ext G M H G (mset M x (.ins C [])) (upd (upd H dx (.own x)) x (.ins C dx [])) := by
  have k : ∀ b o, H b = some o → upd (upd H dx (.own x)) x (.ins C dx []) b = some o := fun b o e => by
    rw [upd_ne (ne_of_none e hx), upd_ne (ne_of_none e hd)]
    exact e
  refine ⟨Same.refl G, ⟨fun b o e => k b o (S.gh b o e), fun l o e => ?_⟩, fun b o e _ => k b o e, fun _ _ _ _ => rfl, fun b o e m => by rw [mset_ne (ne_of_none e hx)]; exact m⟩
  by_cases z : l = x
  · subst z
    rw [mset_same] at e
    cases e
    exact ⟨S.gnone hx, dx, [], upd_same, RepF.nil⟩
  · rw [mset_ne z] at e
    obtain ⟨h1, h2⟩ := S.own l o e
    obtain ⟨u, hu⟩ := h2.some
    exact ⟨h1, h2.mono (Same.refl G) ((k l u hu).trans hu.symm)⟩
def wMake (C : Addr) (n : Nat) (F : TSpec) (u : WA) : WE := fun s M Q => u s M fun ts M1 => ts.length + 1 = n ∧ ∀ x, M1 x = none → cl F (.adr x :: ts) (mset M1 x (.ins C [])) fun r M2 => isN r = true ∧ Q (.adr x) M2
theorem wMake_mono {C : Addr} {n : Nat} {F : TSpec} {u : WA} (hu : ∀ s M Q Q', (∀ r M', Q r M' → Q' r M') → u s M Q → u s M Q') : ∀ s M Q Q', (∀ r M', Q r M' → Q' r M') → wMake C n F u s M Q → wMake C n F u s M Q' :=
  fun s M Q Q' i z => hu s M _ _ (fun ts M1 q => ⟨q.1, fun x hx => cl_mono (fun r M' q' => ⟨q'.1, i _ _ q'.2⟩) (q.2 x hx)⟩) z
theorem make_read {C : Addr} {n : Nat} {F : TSpec} {u : WA} {tu : TA} (hu : ∀ σ H Q, lA u σ H Q → tu σ H Q) (σ : St) (H : Hp) (Q : VK) (h : lE (wMake C n F u) σ H Q) : tMake C (spT n F) [] E0 tu σ H Q := by
  obtain ⟨G, M, s, Qt, S, R, w, k⟩ := h
  refine hu σ H _ ⟨G, M, s, _, S, R, w, fun ts M1 G1 H1 vs q e rs x dx hx hd ne => ?_⟩
  have e2 := Ext.made e.st (C := C) hx hd ne
  rw [List.append_nil]
  refine spT_cl ?_ e2.st (Reps.cons rep_adr (rs.mono e2.gs)) (q.2 x (e.st.mnone hx)) fun t M' G' H' v q' e' rt => ⟨?_, k (.adr x) M' G' H' _ q'.2 ((e.trans e2).trans e') rep_adr⟩
  · show vs.length + 1 = n
    rw [← rs.len]
    exact q.1
  · have z := isN_v rt
    rw [q'.1] at z
    exact of_decide_eq_true z
theorem qe_make {k n : Nat} {F : TSpec} {f C : Addr} {fd : FuncData} {ps : List Str} {x : Str} {p pos : Pos} {e : Expr} {es : List Expr} {u : WA} (Mx : Mk X.K C f) (Fk : FnOk X.prog X.w X.K X.mg X.base CX0 k f fd ps (spT n F)) (hr : Room (k + 1) X.A) (hm : X.mg x = some (.ref C))
    (hb : Binds X.K fd ps []) (ha : QA X (e :: es) u) (hg : Gl X x := by rfl) (hdb : (x == ("__debug__" : Str)) = false := by decide)
    (he : starEach (e :: es) X.env = (false, eval e X.env) :: starEach es X.env := by rfl) (hpl : (backTo pos (starEach es X.env)).any (·.1) = false := by rfl) : QE X (.Call (.Name x p) (e :: es) [] pos) (wMake C n F u) :=
  ⟨PEw (pe_make Mx Fk hr hg hm hb .nil pass0 ha.pa hdb he hpl) (make_read fun σ H Q h => h), wMake_mono ha.mono⟩
theorem qe_make0 {k n : Nat} {F : TSpec} {f C : Addr} {fd : FuncData} {ps : List Str} {x : Str} {p pos : Pos} (Mx : Mk X.K C f) (Fk : FnOk X.prog X.w X.K X.mg X.base CX0 k f fd ps (spT n F)) (hr : Room (k + 1) X.A) (hm : X.mg x = some (.ref C))
    (hb : Binds X.K fd ps []) (hg : Gl X x := by rfl) (hdb : (x == ("__debug__" : Str)) = false := by decide) : QE X (.Call (.Name x p) [] [] pos) (wMake C n F wNil) :=
  ⟨PEw (pe_make0 Mx Fk hr hg hm hb .nil pass0 hdb) (make_read fun σ H Q ⟨G, M, s, Qt, S, R, w, k⟩ => k [] M G H [] w (Ext.refl S) Reps.nil), wMake_mono (qa_nil (X := X)).mono⟩
/-! ### C.m(self, ..), m a def of the class at C -/
theorem pe_cfun {k n : Nat} {F : TSpec} {C f : Addr} {mc : Value} {u0 : Value} {fd : FuncData} {ps : List Str} {m x : Str} {p : Pos} {e : Expr} {es : List Expr} {t : TA} {apos pos : Pos} {pl : Sem Bool} (Fk : FnOk X.prog X.w X.K X.mg X.base CX0 k f fd ps (spT n F)) (hr : Room k X.A)
    (hm : X.mg x = some (.ref C)) (rd : ClX.CRead X.K C mc) (cv : ClX.CVal X.K C mc m (.ref f) u0) (hk : PySem.W.keepIn X.K (.ref f) = true) (hb : Binds X.K fd ps []) (ha : PA X (e :: es) t) (hg : Gl X x := by rfl) (hdb : (x == ("__debug__" : Str)) = false := by decide)
    (hst : starEach (e :: es) X.env = (false, eval e X.env) :: starEach es X.env := by rfl) (hpl : (backTo pos (starEach es X.env)).any (·.1) = false := by rfl)
    (ht : eval (.Call (.Attribute (.Name x p) m apos) (e :: es) [] pos) X.env = (do
      let ov ← eval (.Name x p) X.env
      standAt apos.atName
      let (f, first) ← holding [ov] (getMethod ov m pl)
      callWith pos f first (backTo pos (starEach (e :: es) X.env)) (backToKw pos (keywordEach [] X.env))) := by rfl) :
    PE X (.Call (.Attribute (.Name x p) m apos) (e :: es) [] pos) (tCall (spT n F) [] E0 t) := by
  constructor
  intro pins s σ H Q I h
  refine PySem.W.methodCall_KW (pl := pl) (ld_glob I hg hm ?_ hdb) ht
  refine PySem.W.method_cls I.kIn rd.ga (ClX.getcval_ok I rd cv fun s2 I2 => ?_)
  have ru : u0 = .ref f := cv.rel
  rw [ru]
  refine PySem.W.callWith_K (first := []) (h₀ := X.base) I.ok.mod.kin hk (thn (ha.run pos pins s2 σ H _ I2 h) fun us s3 hv => ?_) hst hpl
  obtain ⟨vs, H2, I3, r, q2⟩ := hv
  exact ⟨I3.kIn, run_fn Fk hr hb .nil pass0 I3 r q2⟩
theorem qe_cfun {k n : Nat} {F : TSpec} {C f : Addr} {mc : Value} {u0 : Value} {fd : FuncData} {ps : List Str} {m x : Str} {p : Pos} {e : Expr} {es : List Expr} {u : WA} {apos pos : Pos} {pl : Sem Bool} (Fk : FnOk X.prog X.w X.K X.mg X.base CX0 k f fd ps (spT n F)) (hr : Room k X.A)
    (hm : X.mg x = some (.ref C)) (rd : ClX.CRead X.K C mc) (cv : ClX.CVal X.K C mc m (.ref f) u0) (hk : PySem.W.keepIn X.K (.ref f) = true) (hb : Binds X.K fd ps []) (ha : QA X (e :: es) u) (hg : Gl X x := by rfl) (hdb : (x == ("__debug__" : Str)) = false := by decide)
    (hst : starEach (e :: es) X.env = (false, eval e X.env) :: starEach es X.env := by rfl) (hpl : (backTo pos (starEach es X.env)).any (·.1) = false := by rfl)
    (ht : eval (.Call (.Attribute (.Name x p) m apos) (e :: es) [] pos) X.env = (do
      let ov ← eval (.Name x p) X.env
      standAt apos.atName
      let (f, first) ← holding [ov] (getMethod ov m pl)
      callWith pos f first (backTo pos (starEach (e :: es) X.env)) (backToKw pos (keywordEach [] X.env))) := by rfl) :
    QE X (.Call (.Attribute (.Name x p) m apos) (e :: es) [] pos) (wFn n F u) :=
  ⟨PEw (pe_cfun Fk hr hm rd cv hk hb ha.pa hg hdb hst hpl ht) fn_read, wFn_mono ha.mono⟩
end
end Tr

set_option Elab.async false
set_option linter.all false
set_option maxRecDepth 100000
set_option maxHeartbeats 4000000
namespace Tr
open PySem L2
theorem EndsI.refl (D : EndsT) : EndsI D D := ⟨fun _ _ h => h, fun _ _ h => h, fun _ _ h => h, fun _ _ h => h⟩
section
variable {X : Cx} {st : Stmt} {rest sts : List Stmt} {w u : WS}
/-! ### blocks -/
def wNext : WS := fun D s M => D.nx s M
def wSeq (a b : WS) : WS := fun D s M => a { D with nx := fun s' M' => b D s' M' } s M
theorem qss_nil : QSs X [] wNext := ⟨PSsw pss_nil fun D σ H ⟨G, M, s, DT, S, R, z, k⟩ => k.nx s M G H σ z (Ext.refl S) R, fun D D' s M i z => i.nx _ _ z⟩
theorem qss_one (h : QS X st w) : QSs X [st] w := ⟨pss_one h.ps, h.mono⟩
theorem qss_cons (h : QS X st w) (r : QSs X rest u) : QSs X (st :: rest) (wSeq w u) := by
  refine ⟨PSsw (pss_cons h.ps r.ps) fun D σ H ⟨G, M, s, DT, S, R, z, k⟩ => ?_, fun D D' s M i z => h.mono {D with nx := fun s' M' => u D s' M'} {D' with nx := fun s' M' => u D' s' M'} s M ⟨fun s' M' q => r.mono D D' s' M' i q, i.rt, i.bk, i.ct⟩ (show w {D with nx := fun s' M' => u D s' M'} s M from z)⟩
  exact ⟨G, M, s, _, S, R, z, fun s' M' G' H' σ' q e r' => ⟨G', M', s', DT, e.st, r', q, k.later e⟩, k.rt, k.bk, k.ct⟩
def wNever : WS := fun _ _ _ => False
theorem qs_never : QS X st wNever := ⟨PSw ps_never fun D σ H ⟨G, M, s, DT, S, R, z, k⟩ => z.elim, fun D D' s M i z => z⟩
theorem qss_never : QSs X sts wNever := ⟨PSsw pss_never fun D σ H ⟨G, M, s, DT, S, R, z, k⟩ => z.elim, fun D D' s M i z => z⟩
theorem qs_pass {pos : Pos} : QS X (.Pass pos) wNext := ⟨PSw ps_pass fun D σ H ⟨G, M, s, DT, S, R, z, k⟩ => k.nx s M G H σ z (Ext.refl S) R, fun D D' s M i z => i.nx _ _ z⟩
def wDrop (w : WE) : WS := fun D s M => w s M fun _ M1 => D.nx s M1
theorem qs_expr {e : Expr} {w : WE} {pos : Pos} (h : QE X e w) (hs : swapsWith e none pos.line X.env = pure false := by rfl) : QS X (.Expr e pos) (wDrop w) :=
  ⟨PSw (ps_expr h.pe hs) fun D σ H ⟨G, M, s, DT, S, R, z, k⟩ => ⟨G, M, s, _, S, R, z, fun r M1 G1 H1 v q e rv => k.nx s M1 G1 H1 σ q e (R.mono e.gs)⟩, fun D D' s M i z => h.mono s M _ _ (fun r M1 q => i.nx _ _ q) z⟩
def wRet (w : WE) : WS := fun D s M => w s M fun r M1 => D.rt r M1
theorem qs_ret {e : Expr} {w : WE} {pos : Pos} (h : QE X e w) : QS X (.Return (some e) pos) (wRet w) :=
  ⟨PSw (ps_ret h.pe) fun D σ H ⟨G, M, s, DT, S, R, z, k⟩ => ⟨G, M, s, _, S, R, z, fun r M1 G1 H1 v q e rv => k.rt r M1 G1 H1 v q e rv⟩, fun D D' s M i z => h.mono s M _ _ (fun r M1 q => i.rt _ _ q) z⟩
def wIf (c : WT) (a b : WS) : WS := fun D s M => c s M fun k M1 => (k = true → a D s M1) ∧ (k = false → b D s M1)
theorem qs_if {c : Expr} {a b : List Stmt} {wc : WT} {wa wb : WS} {pos : Pos} (hc : QT X c wc) (ha : QSs X a wa) (hb : QSs X b wb) : QS X (.If c a b pos) (wIf wc wa wb) := by
  refine ⟨PSw (ps_if hc.pt ha.ps hb.ps) fun D σ H ⟨G, M, s, DT, S, R, z, k⟩ => ⟨G, M, s, _, S, R, z, fun d M1 G1 H1 q e => ?_⟩, fun D D' s M i z => hc.mono s M _ _ (fun d M1 q => ⟨fun e => ha.mono D D' s M1 i (q.1 e), fun e => hb.mono D D' s M1 i (q.2 e)⟩) z⟩
  cases d with
  | true =>
    rw [if_pos rfl]
    exact ⟨G1, M1, s, DT, e.st, R.mono e.gs, q.1 rfl, k.later e⟩
  | false =>
    rw [if_neg Bool.false_ne_true]
    exact ⟨G1, M1, s, DT, e.st, R.mono e.gs, q.2 rfl, k.later e⟩
/-! ### targets -/
abbrev WG := T → TSt → Mh → (TSt → Mh → Prop) → Prop
abbrev WGs := List T → TSt → Mh → (TSt → Mh → Prop) → Prop
def lG (g : WG) : TG := fun v σ H Q => ∃ G M s t Qt, Stt G M H ∧ RepS G s σ ∧ Rep G t v ∧ g t s M Qt ∧ ∀ s' M' G' H' σ', Qt s' M' → Ext G M H G' M' H' → RepS G' s' σ' → Q σ' H'
def lGs (g : WGs) : TGs := fun vs σ H Q => ∃ G M s ts Qt, Stt G M H ∧ RepS G s σ ∧ Reps G ts vs ∧ g ts s M Qt ∧ ∀ s' M' G' H' σ', Qt s' M' → Ext G M H G' M' H' → RepS G' s' σ' → Q σ' H'
structure QG (X : Cx) (tg : Expr) (g : WG) : Prop where
  pg : PG X tg (lG g)
  mono : ∀ t s M Q Q', (∀ s' M', Q s' M' → Q' s' M') → g t s M Q → g t s M Q'
structure QGs (X : Cx) (tg : List Expr) (g : WGs) : Prop where
  pg : PGs X tg (lGs g)
  mono : ∀ t s M Q Q', (∀ s' M', Q s' M' → Q' s' M') → g t s M Q → g t s M Q'
theorem PGw {tg : Expr} {t t' : TG} (h : PG X tg t) (i : ∀ v σ H Q, t' v σ H Q → t v σ H Q) : PG X tg t' := ⟨fun pins s σ H v u Q I r q => h.run pins s σ H v u Q I r (i v σ H Q q)⟩
theorem PGsw {tg : List Expr} {t t' : TGs} (h : PGs X tg t) (i : ∀ v σ H Q, t' v σ H Q → t v σ H Q) : PGs X tg t' := ⟨fun pins s σ H v u Q I r q => h.run pins s σ H v u Q I r (i v σ H Q q)⟩
def wName (i : Nat) : WG := fun t s M Q => Q (s.set i (some t)) M
theorem qg_name (i : Nat) {x : Str} {pos : Pos} (hN : X.N.Nodup) (hi : X.N[i]? = some x := by rfl) (hx : Loc X.env.scope x := by first | exact Or.inl rfl | exact Or.inr rfl)
    (hf : X.fn x = true ∨ X.env.scope.names.lookup x = some .local := by first | exact .inl rfl | exact .inr rfl) : QG X (.Name x pos) (wName i) :=
  ⟨PGw (pg_name hN hi hx hf) fun v σ H Q ⟨G, M, s, t, Qt, S, R, r, z, k⟩ => k _ M G H _ z (Ext.refl S) (R.set r i), fun t s M Q Q' i z => i _ _ z⟩
def wgNil : WGs := fun ts s M Q => ts = [] ∧ Q s M
def wgCons (g : WG) (h : WGs) : WGs := fun ts s M Q => match ts with
  | t :: r => g t s M fun s' M' => h r s' M' Q
  | [] => False
theorem qgs_nil : QGs X [] wgNil := ⟨PGsw pgs_nil fun v σ H Q ⟨G, M, s, ts, Qt, S, R, r, z, k⟩ => by
  obtain ⟨rfl, z⟩ := z
  unfold Reps at r
  exact ⟨r, k _ M G H _ z (Ext.refl S) R⟩, fun t s M Q Q' i z => ⟨z.1, i _ _ z.2⟩⟩
theorem qgs_cons {e : Expr} {es : List Expr} {g : WG} {h : WGs} (h1 : QG X e g) (h2 : QGs X es h) (hne : (assignEach (e :: es) X.env).map (·.2) = assign e X.env :: (assignEach es X.env).map (·.2) := by rfl) : QGs X (e :: es) (wgCons g h) := by
  refine ⟨PGsw (pgs_cons h1.pg h2.pg hne) fun v σ H Q ⟨G, M, s, ts, Qt, S, R, r, z, k⟩ => ?_, fun t s M Q Q' i z => ?_⟩
  · cases ts with
    | nil => cases z
    | cons t ts =>
      unfold Reps at r
      obtain ⟨v1, q, rfl, r1, r2⟩ := r
      refine ⟨v1, q, rfl, G, M, s, t, _, S, R, r1, z, fun s' M' G' H' σ' q e rs => ?_⟩
      exact ⟨G', M', s', ts, Qt, e.st, rs, r2.mono e.gs, q, fun s2 M2 G2 H2 σ2 q2 e2 r3 => k s2 M2 G2 H2 σ2 q2 (e.trans e2) r3⟩
  · cases t with
    | nil => cases z
    | cons t ts => exact h1.mono t s M _ _ (fun s' M' q => h2.mono ts s' M' _ _ i q) z
/-- a tuple, unpacked -/
def wgTup (n : Nat) (h : WGs) : WG := fun t s M Q => match t with
  | .tup ts => ts.length = n ∧ h ts s M Q
  | _ => False
theorem qg_tup {es : List Expr} {k n : Nat} {pos : Pos} {h : WGs} (hc : X.calm = true) (hs : QGs X es h) (hn : (assignEach es X.env).length = n := by rfl) (hst : (assignEach es X.env).findIdx? (·.1) = none := by rfl) : QG X (.Tuple es k pos) (wgTup n h) := by
  refine ⟨PGw (pg_tup hc hs.pg hn hst) fun v σ H Q ⟨G, M, s, t, Qt, S, R, r, z, k⟩ => ?_, fun t s M Q Q' i z => ?_⟩
  · cases t with
    | tup ts =>
      obtain ⟨a, vs, rfl, ha, rs⟩ := view_tup S r (ts := ts) rfl
      unfold Rep at r
      obtain ⟨b, us, e1, hb, ru⟩ := r
      have e1 : a = b := V.ref.inj e1
      subst e1
      have e2 := S.gh _ _ hb
      rw [ha] at e2
      cases e2
      exact ⟨a, vs, rfl, SqT.of ha, by rw [← rs.len]; exact z.1, G, M, s, ts, Qt, S, R, ru, z.2, k⟩
    | _ => cases z
  · cases t with
    | tup ts => exact ⟨z.1, hs.mono ts s M Q Q' i z.2⟩
    | _ => cases z
/-- a solid list, unpacked -/
def wgLst (n : Nat) (h : WGs) : WG := fun t s M Q => match t with
  | .lst ts => ts.length = n ∧ h ts s M Q
  | _ => False
theorem qg_lst {es : List Expr} {k n : Nat} {pos : Pos} {h : WGs} (hc : X.calm = true) (hs : QGs X es h) (hn : (assignEach es X.env).length = n := by rfl) (hst : (assignEach es X.env).findIdx? (·.1) = none := by rfl) : QG X (.Tuple es k pos) (wgLst n h) := by
  refine ⟨PGw (pg_unl hc hs.pg hn hst) fun v σ H Q ⟨G, M, s, t, Qt, S, R, r, z, k⟩ => ?_, fun t s M Q Q' i z => ?_⟩
  · cases t with
    | lst ts =>
      unfold Rep at r
      obtain ⟨a, vs, rfl, ha, rs⟩ := r
      exact ⟨a, vs, rfl, SqL.of (S.gh _ _ ha), by rw [← rs.len]; exact z.1, G, M, s, ts, Qt, S, R, rs, z.2, k⟩
    | _ => cases z
  · cases t with
    | lst ts => exact ⟨z.1, hs.mono ts s M Q Q' i z.2⟩
    | _ => cases z
/-- xs[i] = .., xs an owned list -/
def setW (M : Mh) (x y t : T) (K : Mh → Prop) : Prop := match x, y with
  | .adr l, .int i => (match M l with
    | some (.lst xs) => 0 ≤ i ∧ i.toNat < xs.length ∧ K (mset M l (.lst (xs.set i.toNat t)))
    | _ => False)
  | _, _ => False
def wgSub (wo wi : WE) : WG := fun t s M Q => wo s M fun o M1 => wi s M1 fun i M2 => setW M2 o i t fun M3 => Q s M3
theorem setW_mono {M : Mh} {x y t : T} {K K' : Mh → Prop} (i : ∀ M', K M' → K' M') (w : setW M x y t K) : setW M x y t K' := by
  unfold setW at w ⊢
  cases x with
  | adr l =>
    cases y with
    | int j =>
      dsimp only at w ⊢
      cases e : M l with
      | none => rw [e] at w; cases w
      | some o =>
        rw [e] at w
        cases o with
        | lst xs => exact ⟨w.1, w.2.1, i _ w.2.2⟩
        | _ => cases w
    | _ => cases w
  | _ => cases w
theorem qg_sub {o i : Expr} {wo wi : WE} {pos : Pos} (ho : QE X o wo) (hi : QE X i wi) (ha : ∀ v, assign (.Subscript o i pos) X.env v = (do let ov ← holding [v] (eval o X.env); let iv ← holding [v, ov] (eval i X.env); standAt pos; holding [v, ov, iv] (setItem ov iv v); release [v, ov, iv] []) := by intros; rfl) : QG X (.Subscript o i pos) (wgSub wo wi) := by
  refine ⟨PGw (pg_sub ho.pe hi.pe set_list ha) fun v σ H Q ⟨G, M, s, t, Qt, S, R, r, z, k⟩ => ?_, fun t s M Q Q' i z => ho.mono s M _ _ (fun x M1 q => hi.mono s M1 _ _ (fun y M2 q2 => setW_mono (fun M3 q3 => i _ _ q3) q2) q) z⟩
  refine ⟨G, M, s, _, S, R, z, fun x M1 G1 H1 xv q e rx => ⟨G1, M1, s, _, e.st, R.mono e.gs, q, fun y M2 G2 H2 yv q2 e2 ry => ?_⟩⟩
  unfold setW at q2
  cases x with
  | adr l =>
    cases y with
    | int j =>
      dsimp only at q2
      cases em : M2 l with
      | none => rw [em] at q2; cases q2
      | some oo =>
        rw [em] at q2
        cases oo with
        | lst xs =>
          obtain ⟨h0, h1, q3⟩ := q2
          obtain ⟨vs, hh, rs⟩ := (e2.st.own l _ em).2
          unfold Rep at rx ry
          have hl : j.toNat < vs.length := by rw [← rs.len]; exact h1
          have x3 := Ext.write e2.st em (u := .lst (vs.set j.toNat v)) (o := .lst (xs.set j.toNat t)) ⟨_, upd_same, rs.set _ (r.mono (e.trans e2).gs)⟩
          refine ⟨l, vs, j, j.toNat, rx, ry, hh, ?_, k s _ _ _ σ q3 ((e.trans e2).trans x3) (R.mono ((e.trans e2).trans x3).gs)⟩
          unfold ixN
          rw [if_pos h0, if_pos (by omega)]
        | _ => cases q2
    | _ => cases q2
  | _ => cases q2
def wAsg (w : WE) (g : WG) : WS := fun D s M => w s M fun t M1 => g t s M1 D.nx
theorem asg_read {w : WE} {g : WG} (D : Ends) (σ : St) (H : Hp) (h : lS (wAsg w g) D σ H) : tAsg (lE w) (lG g) D σ H := by
  obtain ⟨G, M, s, DT, S, R, z, k⟩ := h
  refine ⟨G, M, s, _, S, R, z, fun t M1 G1 H1 v q e r => ?_⟩
  exact ⟨G1, M1, s, t, _, e.st, R.mono e.gs, r, q, fun s' M' G' H' σ' q' e' r' => k.nx s' M' G' H' σ' q' (e.trans e') r'⟩
theorem wAsg_mono {w : WE} {g : WG} (hw : ∀ s M Q Q', (∀ r M', Q r M' → Q' r M') → w s M Q → w s M Q') (hg : ∀ t s M Q Q', (∀ s' M', Q s' M' → Q' s' M') → g t s M Q → g t s M Q') : ∀ D D' s M, EndsI D D' → wAsg w g D s M → wAsg w g D' s M :=
  fun D D' s M i z => hw s M _ _ (fun t M1 q => hg t s M1 _ _ i.nx q) z
theorem qs_asg {tg e : Expr} {w : WE} {g : WG} {pos : Pos} (he : QE X e w) (hg : QG X tg g) (h1 : (assignEach [tg] X.env).map (·.2) = [assign tg X.env] := by rfl) (hs : swapsWithSole [tg] e pos.line X.env = pure false := by rfl) (hw : swappedStores [tg] e X.env = pure none := by rfl) : QS X (.Assign [tg] e pos) (wAsg w g) :=
  ⟨PSw (ps_asg he.pe hg.pg hs hw h1) asg_read, wAsg_mono he.mono hg.mono⟩
theorem qs_set (i : Nat) {x : Str} {e : Expr} {w : WE} {pos pos' : Pos} (hN : X.N.Nodup) (he : QE X e w) (hi : X.N[i]? = some x := by rfl) (hx : Loc X.env.scope x := by first | exact Or.inl rfl | exact Or.inr rfl) (hs : swapsWith e (some (.Name x pos')) pos.line X.env = pure false := by rfl)
    (hf : X.fn x = true ∨ X.env.scope.names.lookup x = some .local := by first | exact .inl rfl | exact .inr rfl) : QS X (.Assign [.Name x pos'] e pos) (wAsg w (wName i)) := by
  refine ⟨PSw (ps_set hN hi hx he.pe hs hf) fun D σ H ⟨G, M, s, DT, S, R, z, k⟩ => ?_, wAsg_mono he.mono fun t s M Q Q' i z => i _ _ z⟩
  exact ⟨G, M, s, _, S, R, z, fun t M1 G1 H1 v q e r => k.nx _ M1 G1 H1 _ q e ((R.mono e.gs).set r i)⟩
/-- name += .. of ints -/
def wAug (i : Nat) (w : WE) : WS := fun D s M => match s[i]? with
  | some (some (.int a)) => w s M fun t M1 => (match t with
    | .int b => D.nx (s.set i (some (.int (a + b)))) M1
    | _ => False)
  | _ => False
theorem qs_aug (i : Nat) {x : Str} {e : Expr} {w : WE} {pos pos' : Pos} (hN : X.N.Nodup) (he : QE X e w) (hi : X.N[i]? = some x := by rfl) (hx : Loc X.env.scope x := by first | exact Or.inl rfl | exact Or.inr rfl)
    (hf : X.fn x = true ∨ X.env.scope.names.lookup x = some .local := by first | exact .inl rfl | exact .inr rfl) : QS X (.AugAssign (.Name x pos') .Add e pos) (wAug i w) := by
  refine ⟨PSw (ps_aug hN hi hx he.pe ip_add hf) fun D σ H ⟨G, M, s, DT, S, R, z, k⟩ => ?_, fun D D' s M j z => ?_⟩
  · unfold wAug at z
    cases es : s[i]? with
    | none => rw [es] at z; cases z
    | some o =>
      cases o with
      | none => rw [es] at z; cases z
      | some t =>
        rw [es] at z
        cases t with
        | int a =>
          obtain ⟨v, h1, h2⟩ := R.get es
          unfold Rep at h2
          subst h2
          refine ⟨.int a, h1, G, M, s, _, S, R, z, fun t M1 G1 H1 v q e r => ?_⟩
          cases t with
          | int b =>
            unfold Rep at r
            exact ⟨a, b, rfl, r, k.nx _ M1 G1 H1 _ q e ((R.mono e.gs).set rep_int i)⟩
          | _ => cases q
        | _ => cases z
  · unfold wAug at z ⊢
    cases es : s[i]? with
    | none => rw [es] at z; cases z
    | some o =>
      cases o with
      | none => rw [es] at z; cases z
      | some t =>
        rw [es] at z
        cases t with
        | int a => exact he.mono s M _ _ (fun t M1 q => by
            cases t with
            | int b => exact j.nx _ _ q
            | _ => cases q) z
        | _ => cases z
/-! ### stores to an owned instance, to an owned dict -/
def fldW (K : PySem.W.Frag) (M : Mh) (x : T) (f : Str) (t : T) (N : Mh → Prop) : Prop := match x with
  | .adr a => (match M a with
    | some (.ins C fs) => Cls K C ∧ NoAttr K C f ∧ fs.length < 1000 ∧ N (mset M a (.ins C (putT f t fs)))
    | _ => False)
  | _ => False
theorem fldW_mono {K : PySem.W.Frag} {M : Mh} {x : T} {f : Str} {t : T} {N N' : Mh → Prop} (i : ∀ M', N M' → N' M') (w : fldW K M x f t N) : fldW K M x f t N' := by
  unfold fldW at w ⊢
  cases x with
  | adr a =>
    dsimp only at w ⊢
    cases e : M a with
    | none => rw [e] at w; cases w
    | some o =>
      rw [e] at w
      cases o with
      | ins C fs => exact ⟨w.1, w.2.1, w.2.2.1, i _ w.2.2.2⟩
      | _ => cases w
  | _ => cases w
def wFldS (K : PySem.W.Frag) (wo wv : WE) (f : Str) : WS := fun D s M => wv s M fun t M1 => wo s M1 fun x M2 => fldW K M2 x f t fun M3 => D.nx s M3
theorem qs_fld {o e : Expr} {wo wv : WE} {f : Str} {pos pos' : Pos} (ho : QE X o wo) (hv : QE X e wv) (hs : swapsWith e (some (.Attribute o f pos')) pos.line X.env = pure false := by rfl) : QS X (.Assign [.Attribute o f pos'] e pos) (wFldS X.K wo wv f) := by
  refine ⟨PSw (ps_fld ho.pe hv.pe hs) fun D σ H ⟨G, M, s, DT, S, R, z, k⟩ => ?_, fun D D' s M i z => hv.mono s M _ _ (fun t M1 q => ho.mono s M1 _ _ (fun x M2 q2 => fldW_mono (fun M3 q3 => i.nx _ _ q3) q2) q) z⟩
  refine ⟨G, M, s, _, S, R, z, fun t M1 G1 H1 v q e r => ⟨G1, M1, s, _, e.st, R.mono e.gs, q, fun x M2 G2 H2 xv q2 e2 rx => ?_⟩⟩
  unfold fldW at q2
  cases x with
  | adr a =>
    dsimp only at q2
    cases em : M2 a with
    | none => rw [em] at q2; cases q2
    | some oo =>
      rw [em] at q2
      cases oo with
      | ins C fs =>
        obtain ⟨h1, h2, h3, q3⟩ := q2
        obtain ⟨dx, vs, hh, rf⟩ := (e2.st.own a _ em).2
        unfold Rep at rx
        have x3 := Ext.write e2.st em (u := .ins C dx (putF f v vs)) (o := .ins C (putT f t fs)) ⟨dx, _, upd_same, RepF.put (r.mono e2.gs) rf⟩
        exact ⟨a, C, dx, vs, rx, hh, h1, h2, by rw [rf.len]; exact h3, k.nx s _ _ _ σ q3 ((e.trans e2).trans x3) (R.mono ((e.trans e2).trans x3).gs)⟩
      | _ => cases q2
  | _ => cases q2
def dputW (M : Mh) (d y t : T) (N : Mh → Prop) : Prop := match d, keyT y with
  | .adr a, some k => (match M a with
    | some (.dic .un kvs) => kvs.length < 100000 ∧ N (mset M a (.dic .un (kput k t kvs)))
    | _ => False)
  | _, _ => False
theorem dputW_mono {M : Mh} {d y t : T} {N N' : Mh → Prop} (i : ∀ M', N M' → N' M') (w : dputW M d y t N) : dputW M d y t N' := by
  unfold dputW at w ⊢
  cases d with
  | adr a =>
    cases q : keyT y with
    | none => rw [q] at w; cases w
    | some k =>
      rw [q] at w
      dsimp only at w ⊢
      cases e : M a with
      | none => rw [e] at w; cases w
      | some o =>
        rw [e] at w
        cases o with
        | dic lk kvs =>
          cases lk with
          | so => cases w
          | lk _ _ => cases w
          | un => exact ⟨w.1, i _ w.2⟩
        | _ => cases w
  | _ => cases w
def wDPut (wd wk wv : WE) : WS := fun D s M => wv s M fun t M1 => wd s M1 fun d M2 => wk s M2 fun y M3 => dputW M3 d y t fun M4 => D.nx s M4
theorem qs_dput {o i e : Expr} {wd wk wv : WE} {pos pos' : Pos} (hu : X.A.units + 1 < cLine) (hd : QE X o wd) (hk : QE X i wk) (hv : QE X e wv) (hs : swapsWith e (some (.Subscript o i pos')) pos.line X.env = pure false := by rfl) :
    QS X (.Assign [.Subscript o i pos'] e pos) (wDPut wd wk wv) := by
  refine ⟨PSw (ps_dput hu hd.pe hk.pe hv.pe hs) fun D σ H ⟨G, M, s, DT, S, R, z, k⟩ => ?_,
    fun D D' s M i z => hv.mono s M _ _ (fun t M1 q => hd.mono s M1 _ _ (fun d M2 q2 => hk.mono s M2 _ _ (fun y M3 q3 => dputW_mono (fun M4 q4 => i.nx _ _ q4) q3) q2) q) z⟩
  refine ⟨G, M, s, _, S, R, z, fun t M1 G1 H1 v q e r => ⟨G1, M1, s, _, e.st, R.mono e.gs, q, fun d M2 G2 H2 dv q2 e2 rd => ⟨G2, M2, s, _, e2.st, R.mono (e.trans e2).gs, q2, fun y M3 G3 H3 yv q3 e3 ry => ?_⟩⟩⟩
  unfold dputW at q3
  cases d with
  | adr a =>
    cases qk : keyT y with
    | none => rw [qk] at q3; cases q3
    | some kk =>
      rw [qk] at q3
      dsimp only at q3
      cases em : M3 a with
      | none => rw [em] at q3; cases q3
      | some oo =>
        rw [em] at q3
        cases oo with
        | dic lk kvs =>
          cases lk with
          | so => cases q3
          | lk _ _ => cases q3
          | un =>
            obtain ⟨h1, q4⟩ := q3
            obtain ⟨vs, hh, rk⟩ := (e3.st.own a _ em).2
            unfold Rep at rd
            have ek := keyT_rep qk ry
            have x3 := Ext.write e3.st em (u := .dK (putK vs kk v)) (o := .dic .un (kput kk t kvs)) ⟨_, upd_same, RepK.put ((r.mono e2.gs).mono e3.gs) rk⟩
            refine ⟨a, _, rd, .inl ⟨vs, kk, hh, ek, by rw [rk.len]; exact szl h1, rfl⟩, ?_⟩
            exact k.nx s _ _ _ σ q4 (((e.trans e2).trans e3).trans x3) (R.mono (((e.trans e2).trans e3).trans x3).gs)
        | _ => cases q3
  | _ => cases q3
/-! ### while -/
structure whI (c : WT) (b : WS) (D : EndsT) (s : TSt) (M : Mh) : Prop where
  ex : ∃ I : Nat → TSt → Mh → Prop, (∃ m, I m s M) ∧ ∀ m s M, I m s M → c s M fun k M1 =>
  (k = true → b { D with nx := fun s' M' => ∃ m', m' < m ∧ I m' s' M', ct := fun s' M' => ∃ m', m' < m ∧ I m' s' M', bk := D.nx } s M1) ∧ (k = false → D.nx s M1)
def wWhile (c : WT) (b : WS) : WS := fun D s M => whI c b D s M
theorem qs_while {c : Expr} {body : List Stmt} {wc : WT} {wb : WS} {pos : Pos} (hp : PassesOwn (model X.prog X.w) X.A X.env X.xe) (hc : QT X c wc) (hb : QSs X body wb) : QS X (.While c body [] pos) (wWhile wc wb) := by
  refine ⟨PSw (ps_while hp hc.pt hb.ps) fun D σ H ⟨G, M, s, DT, S, R, ⟨I, ⟨m0, i0⟩, turn⟩, k⟩ => ?_, fun D D' s M i ⟨I, i0, turn⟩ => ⟨I, i0, fun m s M z => hc.mono s M _ _ (fun b M1 q => ⟨fun e => hb.mono {D with nx := fun s' M' => ∃ m', m' < m ∧ I m' s' M', ct := fun s' M' => ∃ m', m' < m ∧ I m' s' M', bk := D.nx} {D' with nx := fun s' M' => ∃ m', m' < m ∧ I m' s' M', ct := fun s' M' => ∃ m', m' < m ∧ I m' s' M', bk := D'.nx} s M1 ⟨fun _ _ h => h, i.rt, i.nx, fun _ _ h => h⟩ (q.1 e), fun e => i.nx _ _ (q.2 e)⟩) (turn m s M z)⟩⟩
  refine ⟨fun m σ' H' => ∃ G' M' s', I m s' M' ∧ Ext G M H G' M' H' ∧ RepS G' s' σ', ⟨m0, G, M, s, i0, Ext.refl S, R⟩, ?_⟩
  rintro m σ1 H1 ⟨G1, M1, s1, i1, e1, r1⟩
  refine ⟨G1, M1, s1, _, e1.st, r1, turn m s1 M1 i1, fun b M2 G2 H2 q e2 => ?_⟩
  cases b with
  | true =>
    rw [if_pos rfl]
    refine ⟨fun σ' H' => ∃ m', m' < m ∧ ∃ G' M' s', I m' s' M' ∧ Ext G M H G' M' H' ∧ RepS G' s' σ', fun σ' H' ⟨m', hm, z⟩ => ⟨m', hm, z⟩, ?_⟩
    refine ⟨G2, M2, s1, _, e2.st, r1.mono e2.gs, q.1 rfl, ?_, ?_, ?_, ?_⟩
    · rintro s' M' G' H' σ' ⟨m', hm, z⟩ e3 r3
      exact ⟨m', hm, G', M', s', z, (e1.trans e2).trans e3, r3⟩
    · exact fun r M' G' H' v q e3 rv => k.rt r M' G' H' v q ((e1.trans e2).trans e3) rv
    · exact fun s' M' G' H' σ' q e3 r3 => k.nx s' M' G' H' σ' q ((e1.trans e2).trans e3) r3
    · rintro s' M' G' H' σ' ⟨m', hm, z⟩ e3 r3
      exact ⟨m', hm, G', M', s', z, (e1.trans e2).trans e3, r3⟩
  | false =>
    rw [if_neg Bool.false_ne_true]
    exact k.nx s1 M2 G2 H2 σ1 (q.2 rfl) (e1.trans e2) (r1.mono e2.gs)
end
end Tr

set_option Elab.async false
set_option linter.all false
set_option maxRecDepth 100000
set_option maxHeartbeats 4000000
namespace Tr
open PySem L2
/-! ### what an iterator yields -/
def ItOk (G : Hp) (M : Mh) (H : Hp) (J : It) (ts : List T) (keep : Mh → Prop) : Prop := ∀ G' M' H', Ext G M H G' M' H' → keep M' →
  (∀ i, i < ts.length → J.go i H') ∧ J.stop ts.length H' ∧ ∀ i x H'', i < ts.length → J.yld i H' x H'' → ∃ G'' t, Ext G' M' H' G'' M' H'' ∧ ts[i]? = some t ∧ Rep G'' t x
theorem ItOk.later {G G1 : Hp} {M M1 : Mh} {H H1 : Hp} {J : It} {ts : List T} {keep : Mh → Prop} (h : ItOk G M H J ts keep) (e : Ext G M H G1 M1 H1) : ItOk G1 M1 H1 J ts keep :=
  fun G' M' H' e' k => h G' M' H' (e.trans e') k
abbrev WI := TSt → Mh → (List T → (Mh → Prop) → Mh → Prop) → Prop
def lI (w : WI) : TI := fun σ H R => ∃ G M s Qt, Stt G M H ∧ RepS G s σ ∧ w s M Qt ∧ ∀ ts keep M' G' H' J, Qt ts keep M' → Ext G M H G' M' H' → ItOk G' M' H' J ts keep → R J H'
structure QI (X : Cx) (tg iter : Expr) (w : WI) : Prop where
  pi : PI X tg iter (lI w)
  mono : ∀ s M Q Q', (∀ ts k M', Q ts k M' → Q' ts k M') → w s M Q → w s M Q'
theorem PIw {X : Cx} {tg iter : Expr} {t t' : TI} (h : PI X tg iter t) (i : ∀ σ H R, t' σ H R → t σ H R) : PI X tg iter t' := ⟨fun pins s σ H R I q => h.run pins s σ H R I (i σ H R q)⟩
def keepT : Mh → Prop := fun _ => True
section
variable {X : Cx} {tg : Expr}
def wILst (w : WE) : WI := fun s M Q => w s M fun t M1 => match t with
  | .lst ts => Q ts keepT M1
  | _ => False
theorem qi_lst {e : Expr} {w : WE} (h : QE X e w) : QI X tg e (wILst w) := by
  refine ⟨PIw (pi_list h.pe) fun σ H R ⟨G, M, s, Qt, S, Rs, z, k⟩ => ⟨G, M, s, _, S, Rs, z, fun t M1 G1 H1 v q x r => ?_⟩, fun s M Q Q' i z => h.mono s M _ _ (fun t M1 q => ?_) z⟩
  · cases t with
    | lst ts =>
      unfold Rep at r
      obtain ⟨a, vs, rfl, ga, rs⟩ := r
      refine ⟨a, rfl, ⟨vs, SqL.of (x.st.gh _ _ ga)⟩, k ts keepT M1 G1 H1 _ q x fun G' M' H' x' _ => ?_⟩
      have ga' := x'.gs _ _ ga
      have hq : SqL X.K H' a vs := SqL.of (x'.st.gh _ _ ga')
      refine ⟨fun i hi => ⟨vs, vs[i]'(by rw [← rs.len]; exact hi), hq, List.getElem?_eq_getElem _⟩, ⟨vs, hq, by rw [rs.len]; exact Nat.le_refl _⟩, fun i y H'' hi ⟨e1, e2⟩ => ?_⟩
      subst e1
      obtain ⟨v, h1, h2⟩ := (rs.mono x'.gs).get (List.getElem?_eq_getElem hi)
      have e3 := e2 vs hq
      rw [h1] at e3
      cases e3
      exact ⟨G', ts[i], Ext.refl x'.st, List.getElem?_eq_getElem hi, h2⟩
    | _ => cases q
  · cases t with
    | lst ts => exact i _ _ _ q
    | _ => cases q
def wITup (w : WE) : WI := fun s M Q => w s M fun t M1 => match t with
  | .tup ts => Q ts keepT M1
  | _ => False
theorem qi_tup {e : Expr} {w : WE} (h : QE X e w) : QI X tg e (wITup w) := by
  refine ⟨PIw (pi_tup h.pe) fun σ H R ⟨G, M, s, Qt, S, Rs, z, k⟩ => ⟨G, M, s, _, S, Rs, z, fun t M1 G1 H1 v q x r => ?_⟩, fun s M Q Q' i z => h.mono s M _ _ (fun t M1 q => ?_) z⟩
  · cases t with
    | tup ts =>
      unfold Rep at r
      obtain ⟨a, vs, rfl, ga, rs⟩ := r
      refine ⟨a, rfl, ⟨vs, SqT.of (x.st.gh _ _ ga)⟩, k ts keepT M1 G1 H1 _ q x fun G' M' H' x' _ => ?_⟩
      have ga' := x'.gs _ _ ga
      have hq : SqT X.K H' a vs := SqT.of (x'.st.gh _ _ ga')
      refine ⟨fun i hi => ⟨vs, vs[i]'(by rw [← rs.len]; exact hi), hq, List.getElem?_eq_getElem _⟩, ⟨vs, hq, by rw [rs.len]; exact Nat.le_refl _⟩, fun i y H'' hi ⟨e1, e2⟩ => ?_⟩
      subst e1
      obtain ⟨v, h1, h2⟩ := (rs.mono x'.gs).get (List.getElem?_eq_getElem hi)
      have e3 := e2 vs hq
      rw [h1] at e3
      cases e3
      exact ⟨G', ts[i], Ext.refl x'.st, List.getElem?_eq_getElem hi, h2⟩
    | _ => cases q
  · cases t with
    | tup ts => exact i _ _ _ q
    | _ => cases q
/-- lo, lo + 1, .. -/
def rngT (lo : Int) (n : Nat) : List T := (List.range n).map fun k => T.int (lo + (k : Nat))
theorem rngT_len (lo : Int) (n : Nat) : (rngT lo n).length = n := by simp [rngT]
theorem rngT_get {lo : Int} {n i : Nat} (h : i < n) : (rngT lo n)[i]? = some (T.int (lo + (i : Nat))) := by simp [rngT, h]
theorem itok_range {G : Hp} {M : Mh} {H : Hp} (lo : Int) (n : Nat) : ItOk G M H (Itr lo n) (rngT lo n) keepT := fun G' M' H' x _ => by
  rw [rngT_len]
  refine ⟨fun i hi => hi, Nat.le_refl _, fun i y H'' hi ⟨e1, e2⟩ => ?_⟩
  subst e1 e2
  exact ⟨G', _, Ext.refl x.st, rngT_get hi, rep_int⟩
def rng1W (ts : List T) (M : Mh) (Q : List T → (Mh → Prop) → Mh → Prop) : Prop := match ts with
  | [.int j] => -(2 ^ 62) ≤ j ∧ j < 2 ^ 62 ∧ Q (rngT 0 j.toNat) keepT M
  | _ => False
theorem rng1W_x {G : Hp} {ts : List T} {vs : List V} {M : Mh} {Q : List T → (Mh → Prop) → Mh → Prop} (r : Reps G ts vs) (h : rng1W ts M Q) : ∃ j : Int, vs = [.int j] ∧ -(2 ^ 62) ≤ j ∧ j < 2 ^ 62 ∧ Q (rngT 0 j.toNat) keepT M := by
  match ts, h with
  | [.int j], h =>
    unfold Reps at r
    obtain ⟨v, q, rfl, r1, r2⟩ := r
    unfold Reps at r2
    unfold Rep at r1
    subst r1 r2
    exact ⟨j, rfl, h⟩
theorem rng1W_mono {ts : List T} {M : Mh} {Q Q' : List T → (Mh → Prop) → Mh → Prop} (i : ∀ ts k M', Q ts k M' → Q' ts k M') (h : rng1W ts M Q) : rng1W ts M Q' := by
  match ts, h with
  | [.int j], h => exact ⟨h.1, h.2.1, i _ _ _ h.2.2⟩
theorem qi_range1 {a : Expr} {w : WA} {p pos : Pos} (ha : QA X [a] w) (hg : Gl X "range" := by rfl) (hm : X.mg "range" = none := by rfl) (hs : starEach [a] X.env = [(false, eval a X.env)] := by rfl) :
    QI X tg (.Call (.Name "range" p) [a] [] pos) (fun s M Q => w s M fun ts M1 => rng1W ts M1 Q) := by
  refine ⟨PIw (pi_range1 hg hm ha.pa hs) fun σ H R ⟨G, M, s, Qt, S, Rs, z, k⟩ => ⟨G, M, s, _, S, Rs, z, fun ts M1 G1 H1 vs q x r => ?_⟩, fun s M Q Q' i z => ha.mono s M _ _ (fun t M1 q => rng1W_mono i q) z⟩
  obtain ⟨j, rfl, h1, h2, q⟩ := rng1W_x r q
  exact ⟨j, rfl, h1, h2, k _ _ M1 G1 H1 _ q x (itok_range 0 _)⟩
def rng2W (ts : List T) (M : Mh) (Q : List T → (Mh → Prop) → Mh → Prop) : Prop := match ts with
  | [.int i, .int j] => (-(2 ^ 62) ≤ i ∧ i < 2 ^ 62 ∧ -(2 ^ 62) ≤ j ∧ j < 2 ^ 62) ∧ Q (rngT i (j - i).toNat) keepT M
  | _ => False
theorem rng2W_x {G : Hp} {ts : List T} {vs : List V} {M : Mh} {Q : List T → (Mh → Prop) → Mh → Prop} (r : Reps G ts vs) (h : rng2W ts M Q) :
    ∃ i j : Int, vs = [.int i, .int j] ∧ (-(2 ^ 62) ≤ i ∧ i < 2 ^ 62 ∧ -(2 ^ 62) ≤ j ∧ j < 2 ^ 62) ∧ Q (rngT i (j - i).toNat) keepT M := by
  match ts, h with
  | [.int i, .int j], h =>
    unfold Reps at r
    obtain ⟨v, q, rfl, r1, r2⟩ := r
    unfold Reps at r2
    obtain ⟨v2, q2, rfl, r3, r4⟩ := r2
    unfold Reps at r4
    unfold Rep at r1 r3
    subst r1 r3 r4
    exact ⟨i, j, rfl, h⟩
theorem rng2W_mono {ts : List T} {M : Mh} {Q Q' : List T → (Mh → Prop) → Mh → Prop} (i : ∀ ts k M', Q ts k M' → Q' ts k M') (h : rng2W ts M Q) : rng2W ts M Q' := by
  match ts, h with
  | [.int a, .int j], h => exact ⟨h.1, i _ _ _ h.2⟩
theorem qi_range2 {a b : Expr} {w : WA} {p pos : Pos} (ha : QA X [a, b] w) (hg : Gl X "range" := by rfl) (hm : X.mg "range" = none := by rfl) (hs : starEach [a, b] X.env = [(false, eval a X.env), (false, eval b X.env)] := by rfl) (hs2 : starEach [b] X.env = [(false, eval b X.env)] := by rfl) :
    QI X tg (.Call (.Name "range" p) [a, b] [] pos) (fun s M Q => w s M fun ts M1 => rng2W ts M1 Q) := by
  refine ⟨PIw (pi_range2 hg hm ha.pa hs hs2) fun σ H R ⟨G, M, s, Qt, S, Rs, z, k⟩ => ⟨G, M, s, _, S, Rs, z, fun ts M1 G1 H1 vs q x r => ?_⟩, fun s M Q Q' i z => ha.mono s M _ _ (fun t M1 q => rng2W_mono i q) z⟩
  obtain ⟨i, j, rfl, h1, q⟩ := rng2W_x r q
  exact ⟨i, j, rfl, h1, k _ _ M1 G1 H1 _ q x (itok_range i _)⟩
/-- the signs of a text -/
def chT (x : Str) : List T := x.cps.toList.map fun c => T.str ⟨#[c]⟩
theorem chT_len (x : Str) : (chT x).length = x.cps.size := by simp [chT]
def strIW (t : T) (M : Mh) (Q : List T → (Mh → Prop) → Mh → Prop) : Prop := match t with
  | .str x => Q (chT x) keepT M
  | _ => False
theorem qi_str {e : Expr} {w : WE} (h : QE X e w) : QI X tg e (fun s M Q => w s M fun t M1 => strIW t M1 Q) := by
  refine ⟨PIw (pi_str h.pe) fun σ H R ⟨G, M, s, Qt, S, Rs, z, k⟩ => ⟨G, M, s, _, S, Rs, z, fun t M1 G1 H1 v q x r => ?_⟩, fun s M Q Q' i z => h.mono s M _ _ (fun t M1 q => ?_) z⟩
  · cases t with
    | str y =>
      unfold Rep at r
      refine ⟨y, r, k _ _ M1 G1 H1 _ q x fun G' M' H' x' _ => ?_⟩
      rw [chT_len]
      refine ⟨fun i hi => hi, Nat.le_refl _, fun i u H'' hi ⟨e1, c, e2, e3⟩ => ?_⟩
      subst e1 e3
      exact ⟨G', .str ⟨#[c]⟩, Ext.refl x'.st, by unfold chT; rw [List.getElem?_map, Array.getElem?_toList, e2]; rfl, rep_str⟩
    | _ => cases q
  · cases t with
    | str y => exact i _ _ _ q
    | _ => cases q
/-- two tuples side by side -/
def zipT (xs ys : List T) : List T := (xs.zip ys).map fun p => T.tup [p.1, p.2]
def zipW (ts : List T) (M : Mh) (Q : List T → (Mh → Prop) → Mh → Prop) : Prop := match ts with
  | [.tup xs, .tup ys] => Q (zipT xs ys) keepT M
  | _ => False
theorem zipW_x {G : Hp} {ts : List T} {vs : List V} {M : Mh} {Q : List T → (Mh → Prop) → Mh → Prop} (r : Reps G ts vs) (h : zipW ts M Q) :
    ∃ a b xs ys us ws, vs = [.ref a, .ref b] ∧ G a = some (.tup us) ∧ G b = some (.tup ws) ∧ Reps G xs us ∧ Reps G ys ws ∧ Q (zipT xs ys) keepT M := by
  match ts, h with
  | [.tup xs, .tup ys], h =>
    unfold Reps at r
    obtain ⟨v, q, rfl, r1, r2⟩ := r
    unfold Reps at r2
    obtain ⟨v2, q2, rfl, r3, r4⟩ := r2
    unfold Reps at r4
    unfold Rep at r1 r3
    obtain ⟨a, us, rfl, g1, q1⟩ := r1
    obtain ⟨b, ws, rfl, g2, q2⟩ := r3
    subst r4
    exact ⟨a, b, xs, ys, us, ws, rfl, g1, g2, q1, q2, h⟩
theorem zipW_mono {ts : List T} {M : Mh} {Q Q' : List T → (Mh → Prop) → Mh → Prop} (i : ∀ ts k M', Q ts k M' → Q' ts k M') (h : zipW ts M Q) : zipW ts M Q' := by
  match ts, h with
  | [.tup xs, .tup ys], h => exact i _ _ _ h
theorem qi_zip {e e2 : Expr} {w : WA} {p pos tpos : Pos} {elts : List Expr} {kk : Nat} (ha : QA X [e, e2] w) (hg : Gl X "zip" := by rfl) (hm : X.mg "zip" = none := by rfl)
    (hs : starEach [e, e2] X.env = (false, eval e X.env) :: starEach [e2] X.env := by rfl) (hpl : (backTo pos (starEach [e2] X.env)).any (·.1) = false := by rfl) :
    QI X (.Tuple elts kk tpos) (.Call (.Name "zip" p) [e, e2] [] pos) (fun s M Q => w s M fun ts M1 => zipW ts M1 Q) := by
  refine ⟨PIw (RZ.pi_zipA hg hm ha.pa hs hpl) fun σ H R ⟨G, M, s, Qt, S, Rs, z, k⟩ => ⟨G, M, s, _, S, Rs, z, fun ts M1 G1 H1 vs q x r => ?_⟩, fun s M Q Q' i z => ha.mono s M _ _ (fun t M1 q => zipW_mono i q) z⟩
  obtain ⟨a, b, xs, ys, us, ws, rfl, g1, g2, r1, r2, q⟩ := zipW_x r q
  refine ⟨a, b, us, ws, rfl, .inr ⟨SqT.of (x.st.gh _ _ g1), SqT.of (x.st.gh _ _ g2), k _ _ M1 G1 H1 _ q x fun G' M' H' x' _ => ?_⟩⟩
  have q1 : SqT X.K H' a us := SqT.of (x'.st.gh _ _ (x'.gs _ _ g1))
  have q2 : SqT X.K H' b ws := SqT.of (x'.st.gh _ _ (x'.gs _ _ g2))
  have l1 := r1.len
  have l2 := r2.len
  have hl : (zipT xs ys).length = min xs.length ys.length := by simp [zipT]
  rw [hl]
  refine ⟨fun i hi => ?_, ⟨us, ws, q1, q2, by omega⟩, fun i y H'' hi ⟨T1, v1, v2, e1, e2, e3, e4, e5⟩ => ?_⟩
  · have i1 : i < us.length := by omega
    have i2 : i < ws.length := by omega
    exact ⟨us, ws, us[i], ws[i], q1, q2, List.getElem?_eq_getElem i1, List.getElem?_eq_getElem i2⟩
  · have i1 : i < xs.length := by omega
    have i2 : i < ys.length := by omega
    obtain ⟨u1, h1, h2⟩ := (r1.mono x'.gs).get (List.getElem?_eq_getElem i1)
    obtain ⟨u2, h3, h4⟩ := (r2.mono x'.gs).get (List.getElem?_eq_getElem i2)
    have z1 := e4 us q1
    have z2 := e5 ws q2
    rw [h1] at z1
    rw [h3] at z2
    cases z1
    cases z2
    subst e1 e3
    have x3 := Ext.solid x'.st (o := .tup [v1, v2]) e2
    refine ⟨_, .tup [xs[i], ys[i]], x3, by simp [zipT, List.getElem?_zip_eq_some, i1, i2], ?_⟩
    unfold Rep
    exact ⟨T1, _, rfl, upd_same, .cons (h2.mono x3.gs) (.cons (h4.mono x3.gs) .nil)⟩
/-! ### dicts under a lock -/
def dkW (t : T) (M : Mh) (f : List (Key × T) → List T) (Q : List T → (Mh → Prop) → Mh → Prop) : Prop := match t with
  | .adr a => (match M a with
    | some (.dic (.lk o vs) kvs) => Q (f kvs) (fun M' => M' a = some (.dic (.lk o vs) kvs)) M
    | _ => False)
  | _ => False
theorem dkW_x {t : T} {M : Mh} {f : List (Key × T) → List T} {Q : List T → (Mh → Prop) → Mh → Prop} (h : dkW t M f Q) :
    ∃ a o vs kvs, t = .adr a ∧ M a = some (.dic (.lk o vs) kvs) ∧ Q (f kvs) (fun M' => M' a = some (.dic (.lk o vs) kvs)) M := by
  unfold dkW at h
  cases t with
  | adr a =>
    dsimp only at h
    cases e : M a with
    | none => rw [e] at h; cases h
    | some oo =>
      rw [e] at h
      cases oo with
      | dic lk kvs =>
        cases lk with
        | lk o vs => exact ⟨a, o, vs, kvs, rfl, e, h⟩
        | _ => cases h
      | _ => cases h
  | _ => cases h
theorem dkW_of {M : Mh} {f : List (Key × T) → List T} {Q : List T → (Mh → Prop) → Mh → Prop} {a : Addr} {o : Obj} {vs : List (Key × V)} {kvs : List (Key × T)} (e : M a = some (.dic (.lk o vs) kvs)) (q : Q (f kvs) (fun M' => M' a = some (.dic (.lk o vs) kvs)) M) : dkW (.adr a) M f Q := by
  unfold dkW
  dsimp only
  rw [e]
  exact q
theorem dkW_mono {t : T} {M : Mh} {f : List (Key × T) → List T} {Q Q' : List T → (Mh → Prop) → Mh → Prop} (i : ∀ ts k M', Q ts k M' → Q' ts k M') (h : dkW t M f Q) : dkW t M f Q' := by
  obtain ⟨a, o, vs, kvs, rfl, e, q⟩ := dkW_x h
  exact dkW_of e (i _ _ _ q)
def keysT (kvs : List (Key × T)) : List T := kvs.map fun p => keyV p.1
def itemsT (kvs : List (Key × T)) : List T := kvs.map fun p => T.tup [keyV p.1, p.2]
theorem RepK.at {G : Hp} {kvs : List (Key × T)} {vs : List (Key × V)} (r : RepK G kvs vs) : ∀ {i : Nat} {k : Key} {v : V}, vs[i]? = some (k, v) → ∃ t, kvs[i]? = some (k, t) ∧ Rep G t v := by
  induction kvs generalizing vs with
  | nil =>
    unfold RepK at r
    subst r
    intro i k v h
    simp at h
  | cons p kvs ih =>
    obtain ⟨k0, t0⟩ := p
    unfold RepK at r
    obtain ⟨v0, q, rfl, r1, r2⟩ := r
    intro i k v h
    cases i with
    | zero =>
      simp at h
      obtain ⟨rfl, rfl⟩ := h
      exact ⟨t0, rfl, r1⟩
    | succ i => exact ih r2 (by simpa using h)
theorem qi_keys {e : Expr} {w : WE} (h : QE X e w) : QI X tg e (fun s M Q => w s M fun t M1 => dkW t M1 keysT Q) := by
  refine ⟨PIw (pi_keys h.pe) fun σ H R ⟨G, M, s, Qt, S, Rs, z, k⟩ => ⟨G, M, s, _, S, Rs, z, fun t M1 G1 H1 v q x r => ?_⟩, fun s M Q Q' i z => h.mono s M _ _ (fun t M1 q => dkW_mono i q) z⟩
  obtain ⟨a, o, vs, kvs, rfl, e, q⟩ := dkW_x q
  unfold Rep at r
  obtain ⟨hh, rk⟩ := (x.st.own a _ e).2
  refine ⟨a, o, r, .inl ⟨vs, hh, k _ _ M1 G1 H1 _ q x fun G' M' H' x' hk => ?_⟩⟩
  obtain ⟨hh', rk'⟩ := (x'.st.own a _ hk).2
  have hl : (keysT kvs).length = vs.length := by rw [show vs.length = kvs.length from rk'.len]; simp [keysT]
  refine ⟨fun i hi => ⟨hh', by omega⟩, ⟨hh', by omega⟩, fun i y H'' hi ⟨e1, kk, vv, e2, e3⟩ => ?_⟩
  subst e1 e3
  obtain ⟨t, h1, h2⟩ := rk'.at e2
  refine ⟨G', keyV kk, Ext.refl x'.st, by simp [keysT, h1], ?_⟩
  cases kk with
  | inl j => exact rep_int
  | inr j => exact rep_str
theorem qi_items {e : Expr} {w : WE} {apos cpos tpos : Pos} {elts : List Expr} {kk : Nat} (h : QE X e w) (hbase : attributeBase e "items" X.env (eval e X.env) = eval e X.env := by rfl) (hline : (apos.endLine == cpos.line) = true := by rfl) :
    QI X (.Tuple elts kk tpos) (.Call (.Attribute e "items" apos) [] [] cpos) (fun s M Q => w s M fun t M1 => dkW t M1 itemsT Q) := by
  refine ⟨PIw (pi_items h.pe hbase hline) fun σ H R ⟨G, M, s, Qt, S, Rs, z, k⟩ => ⟨G, M, s, _, S, Rs, z, fun t M1 G1 H1 v q x r => ?_⟩, fun s M Q Q' i z => h.mono s M _ _ (fun t M1 q => dkW_mono i q) z⟩
  obtain ⟨a, o, vs, kvs, rfl, e, q⟩ := dkW_x q
  unfold Rep at r
  obtain ⟨hh, rk⟩ := (x.st.own a _ e).2
  refine ⟨a, o, vs, r, hh, k _ _ M1 G1 H1 _ q x fun G' M' H' x' hk => ?_⟩
  obtain ⟨hh', rk'⟩ := (x'.st.own a _ hk).2
  have hl : (itemsT kvs).length = vs.length := by rw [show vs.length = kvs.length from rk'.len]; simp [itemsT]
  refine ⟨fun i hi => ⟨hh', by omega⟩, ⟨hh', by omega⟩, fun i y H'' hi ⟨T1, kk, vv, e2, e1, e4, e3⟩ => ?_⟩
  subst e1 e3
  obtain ⟨t, h1, h2⟩ := rk'.at e2
  have x3 := Ext.solid x'.st (o := .tup [kV kk, vv]) e4
  refine ⟨_, .tup [keyV kk, t], x3, by simp [itemsT, h1], ?_⟩
  unfold Rep
  refine ⟨T1, _, rfl, upd_same, .cons ?_ (.cons (h2.mono x3.gs) .nil)⟩
  cases kk with
  | inl j => exact rep_int
  | inr j => exact rep_str
def lockD (D : EndsT) (a : Addr) (o : Obj) (vs : List (Key × V)) (kvs : List (Key × T)) : EndsT :=
  ⟨fun s' M' => M' a = some (.dic (.lk o vs) kvs) ∧ D.nx s' (mset M' a (.dic .un kvs)), fun r M' => M' a = some (.dic (.lk o vs) kvs) ∧ D.rt r (mset M' a (.dic .un kvs)),
   fun s' M' => M' a = some (.dic (.lk o vs) kvs) ∧ D.bk s' (mset M' a (.dic .un kvs)), fun s' M' => M' a = some (.dic (.lk o vs) kvs) ∧ D.ct s' (mset M' a (.dic .un kvs))⟩
def wLockS (w : WS) : WS := fun D s M => ∃ a kvs, M a = some (.dic .un kvs) ∧ ∀ o vs, w (lockD D a o vs kvs) s (mset M a (.dic (.lk o vs) kvs))
theorem unlock_x {G : Hp} {M : Mh} {H : Hp} {a : Addr} {o : Obj} {vs : List (Key × V)} {kvs : List (Key × T)} (S : Stt G M H) (h : M a = some (.dic (.lk o vs) kvs)) : H a = some (.frz o (.dK vs)) ∧ Ext G M H G (mset M a (.dic .un kvs)) (upd H a (.dK vs)) := by
  obtain ⟨hh, rk⟩ := (S.own a _ h).2
  exact ⟨hh, Ext.write S h ⟨vs, upd_same, rk⟩⟩
theorem qs_lock {st : Stmt} {w : WS} (h : QS X st w) : QS X st (wLockS w) := by
  refine ⟨PSw (ps_lock h.ps) fun D σ H ⟨G, M, s, DT, S, R, ⟨a, kvs, ea, z⟩, k⟩ => ?_, fun D D' s M i ⟨a, kvs, ea, z⟩ => ⟨a, kvs, ea, fun o vs => h.mono (lockD D a o vs kvs) (lockD D' a o vs kvs) s _ ⟨fun s' M' q => ⟨q.1, i.nx _ _ q.2⟩, fun s' M' q => ⟨q.1, i.rt _ _ q.2⟩, fun s' M' q => ⟨q.1, i.bk _ _ q.2⟩, fun s' M' q => ⟨q.1, i.ct _ _ q.2⟩⟩ (z o vs)⟩⟩
  obtain ⟨vs, hh, rk⟩ := (S.own a _ ea).2
  refine ⟨a, .dK vs, hh, trivial, fun od => ?_⟩
  have x1 := Ext.write S (u := .frz od (.dK vs)) (o := .dic (.lk od vs) kvs) ea ⟨upd_same, rk⟩
  refine ⟨G, _, s, _, x1.st, R, z od vs, ?_, ?_, ?_, ?_⟩
  · rintro s' M' G' H' σ' ⟨q1, q2⟩ x2 r2
    obtain ⟨u1, u2⟩ := unlock_x x2.st q1
    exact ⟨u1, k.nx _ _ _ _ _ q2 ((x1.trans x2).trans u2) r2⟩
  · rintro s' M' G' H' σ' ⟨q1, q2⟩ x2 r2
    obtain ⟨u1, u2⟩ := unlock_x x2.st q1
    exact ⟨u1, k.rt _ _ _ _ _ q2 ((x1.trans x2).trans u2) r2⟩
  · rintro s' M' G' H' σ' ⟨q1, q2⟩ x2 r2
    obtain ⟨u1, u2⟩ := unlock_x x2.st q1
    exact ⟨u1, k.bk _ _ _ _ _ q2 ((x1.trans x2).trans u2) r2⟩
  · rintro s' M' G' H' σ' ⟨q1, q2⟩ x2 r2
    obtain ⟨u1, u2⟩ := unlock_x x2.st q1
    exact ⟨u1, k.ct _ _ _ _ _ q2 ((x1.trans x2).trans u2) r2⟩
def wLockE (w : WE) : WE := fun s M Q => ∃ a kvs, M a = some (.dic .un kvs) ∧ ∀ o vs, w s (mset M a (.dic (.lk o vs) kvs)) fun r M' => M' a = some (.dic (.lk o vs) kvs) ∧ Q r (mset M' a (.dic .un kvs))
theorem qe_lock {e : Expr} {w : WE} (h : QE X e w) : QE X e (wLockE w) := by
  refine ⟨PEw (pe_lock h.pe) fun σ H Q ⟨G, M, s, Qt, S, R, ⟨a, kvs, ea, z⟩, k⟩ => ?_, fun s M Q Q' i ⟨a, kvs, ea, z⟩ => ⟨a, kvs, ea, fun o vs => h.mono s _ _ _ (fun r M' q => ⟨q.1, i _ _ q.2⟩) (z o vs)⟩⟩
  obtain ⟨vs, hh, rk⟩ := (S.own a _ ea).2
  refine ⟨a, .dK vs, hh, trivial, fun od => ?_⟩
  have x1 := Ext.write S (u := .frz od (.dK vs)) (o := .dic (.lk od vs) kvs) ea ⟨upd_same, rk⟩
  refine ⟨G, _, s, _, x1.st, R, z od vs, ?_⟩
  rintro r M' G' H' v ⟨q1, q2⟩ x2 r2
  obtain ⟨u1, u2⟩ := unlock_x x2.st q1
  exact ⟨u1, k _ _ _ _ _ q2 ((x1.trans x2).trans u2) r2⟩
/-! ### for -/
structure forI (g : WG) (b : WS) (D : EndsT) (s : TSt) (ts : List T) (keep : Mh → Prop) (M1 : Mh) : Prop where
  ex : ∃ I : Nat → TSt → Mh → Prop, I 0 s M1 ∧ (∀ k s' M', I k s' M' → keep M') ∧
  (∀ k s' M' t, ts[k]? = some t → I k s' M' → g t s' M' fun s2 M2 => b { D with nx := I (k + 1), ct := I (k + 1), bk := D.nx } s2 M2) ∧ (∀ s' M', I ts.length s' M' → D.nx s' M')
def wFor (wi : WI) (g : WG) (b : WS) : WS := fun D s M => wi s M fun ts keep M1 => forI g b D s ts keep M1
theorem qs_for {iter : Expr} {body : List Stmt} {wi : WI} {g : WG} {wb : WS} {pos : Pos} (hp : PassesOwn (model X.prog X.w) X.A X.env X.xe) (hc : X.calm = true) (hi : QI X tg iter wi) (hg : QG X tg g) (hb : QSs X body wb)
    (hs : ∀ x, foldedSetIterable iter X.env x = pure x := by intro _; rfl) : QS X (.For tg iter body [] pos) (wFor wi g wb) := by
  refine ⟨PSw (ps_for hp hc hi.pi hg.pg hb.ps hs) fun D σ H ⟨G, M, s, DT, S, R, z, k⟩ => ⟨G, M, s, _, S, R, z, fun ts keep M1 G1 H1 J ⟨I, i0, ik, turn, fin⟩ x ok => ?_⟩, fun D D' s M i z => hi.mono s M _ _ (fun ts keep M1 ⟨I, i0, ik, turn, fin⟩ => ?_) z⟩
  · refine ⟨fun n m σ' H' => m = ts.length - n ∧ n ≤ ts.length ∧ ∃ G' M' s', I n s' M' ∧ Ext G1 M1 H1 G' M' H' ∧ RepS G' s' σ', ⟨_, rfl, Nat.zero_le _, G1, M1, s, i0, Ext.refl x.st, R.mono x.gs⟩, ?_⟩
    rintro n m σ' H' ⟨rfl, hn, G', M', s', i1, x1, r1⟩
    obtain ⟨o1, o2, o3⟩ := ok G' M' H' x1 (ik n s' M' i1)
    by_cases hlt : n < ts.length
    · refine .inr ⟨o1 n hlt, fun σ2 H2 => ∃ G' M' s', I (n + 1) s' M' ∧ Ext G1 M1 H1 G' M' H2 ∧ RepS G' s' σ2, fun σ2 H2 z => ⟨ts.length - (n + 1), by omega, rfl, hlt, z⟩, fun y H2 hy => ?_⟩
      obtain ⟨G2, t, x2, et, rt⟩ := o3 n y H2 hlt hy
      refine ⟨G2, M', s', t, _, x2.st, r1.mono x2.gs, rt, turn n s' M' t et i1, fun s3 M3 G3 H3 σ3 q x3 r3 => ?_⟩
      refine ⟨G3, M3, s3, _, x3.st, r3, q, ?_, ?_, ?_, ?_⟩
      · exact fun s' M' G' H' σ' q x4 r => ⟨G', M', s', q, ((x1.trans x2).trans x3).trans x4, r⟩
      · exact fun r M' G' H' v q x4 rr => k.rt _ _ _ _ _ q ((((x.trans x1).trans x2).trans x3).trans x4) rr
      · exact fun s' M' G' H' σ' q x4 r => k.nx _ _ _ _ _ q ((((x.trans x1).trans x2).trans x3).trans x4) r
      · exact fun s' M' G' H' σ' q x4 r => ⟨G', M', s', q, ((x1.trans x2).trans x3).trans x4, r⟩
    · have e : n = ts.length := by omega
      subst e
      exact .inl ⟨o2, k.nx _ _ _ _ _ (fin s' M' i1) (x.trans x1) r1⟩
  · exact ⟨I, i0, ik, fun k s' M' t et ii => hg.mono t s' M' _ _ (fun s2 M2 q => hb.mono {D with nx := I (k + 1), ct := I (k + 1), bk := D.nx} {D' with nx := I (k + 1), ct := I (k + 1), bk := D'.nx} s2 M2 ⟨fun _ _ h => h, i.rt, i.nx, fun _ _ h => h⟩ q) (turn k s' M' t et ii), fun s' M' q => i.nx _ _ (fin s' M' q)⟩
end
/-! ### a new list at the side -/
section
variable {G G' : Hp} {M M' : Mh} {H H' : Hp} {D : Addr}
theorem Ext.side {u : HO} (x : Ext G M H G' M' H') (h : H D = none) (hg : G' D = none) (hm : M' D = none) : Ext G M H G' M' (upd H' D u) := by
  refine ⟨x.gs, ⟨fun b o e => ?_, fun l o e => ?_⟩, fun b o e m => ?_, x.fr, x.fm⟩
  · rw [upd_ne (ne_of_none e hg)]
    exact x.st.gh b o e
  · obtain ⟨h1, h2⟩ := x.st.own l o e
    have n : l ≠ D := fun z => by
      subst z
      rw [e] at hm
      cases hm
    exact ⟨h1, h2.mono (Same.refl _) (upd_ne n)⟩
  · rw [upd_ne (ne_of_none e h)]
    exact x.hs b o e m
theorem Ext.sideSeal {u : HO} (x : Ext G M H G' M' H') (h : H D = none) (hg : G' D = none) (hm : M' D = none) (hu : H' D = some u) : Ext G M H (upd G' D u) M' H' := by
  have sg : Same G' (upd G' D u) := fun b o e => by
    rw [upd_ne (ne_of_none e hg)]
    exact e
  refine ⟨x.gs.trans sg, ⟨fun b o e => ?_, fun l o e => ?_⟩, x.hs, fun b o e m => ?_, x.fm⟩
  · by_cases z : b = D
    · subst z
      rw [upd_same] at e
      cases e
      exact hu
    · rw [upd_ne z] at e
      exact x.st.gh b o e
  · obtain ⟨h1, h2⟩ := x.st.own l o e
    have n : l ≠ D := fun z => by
      subst z
      rw [e] at hm
      cases hm
    exact ⟨by rw [upd_ne n]; exact h1, h2.mono sg rfl⟩
  · rw [upd_ne (ne_of_none e h)]
    exact x.fr b o e m
end
/-! ### list comprehensions -/
structure QTs (X : Cx) (ifs : List Expr) (w : WT) : Prop where
  pt : PTs X ifs (lT w)
  mono : ∀ s M Q Q', (∀ r M', Q r M' → Q' r M') → w s M Q → w s M Q'
def wYes : WT := fun s M Q => Q true M
theorem qts_nil {X : Cx} : QTs X [] wYes :=
  ⟨⟨fun pins s σ H Q I ⟨G, M, st, Qt, S, R, z, k⟩ => pts_nil.run pins s σ H Q I (k true M G H z (Ext.refl S))⟩, fun s M Q Q' i z => i _ _ z⟩
theorem qts_one {X : Cx} {c : Expr} {w : WT} (h : QT X c w) : QTs X [c] w := ⟨pts_one h.pt, h.mono⟩
/-- how a target binds: the block's own slots, the trees there -/
abbrev BindT := T → Option (List (Nat × T))
def setsT (s : TSt) : List (Nat × T) → TSt
  | [] => s
  | (i, t) :: r => setsT (s.set i (some t)) r
/-- [elt for .. in .. if ..]: the reading by a word of the turn, of what is gathered, of what is owned -/
structure lcI (vs : List Nat) (bd : BindT) (tt : WT) (te : WE) (s : TSt) (ts : List T) (keep : Mh → Prop) (M1 : Mh) (Q : TQ) : Prop where
  ex : ∃ I : Nat → List T → Mh → Prop, I 0 [] M1 ∧ (∀ k acc M', I k acc M' → keep M') ∧
  (∀ k acc M' t, ts[k]? = some t → I k acc M' → ∃ b, bd t = some b ∧ tt (setsT (twipe s vs) b) M' fun c M2 =>
    (c = true → te (setsT (twipe s vs) b) M2 fun y M3 => acc.length < 100000 ∧ I (k + 1) (acc ++ [y]) M3) ∧ (c = false → I (k + 1) acc M2)) ∧ ∀ acc M', I ts.length acc M' → Q (.lst acc) M'
def wLc (wi : WI) (vs : List Nat) (bd : BindT) (tt : WT) (te : WE) : WE := fun s M Q => wi s M fun ts keep M1 => lcI vs bd tt te s ts keep M1 Q
theorem lc_read {wi : WI} {g : TG} {vs : List Nat} {bd : BindT} {tt : WT} {te : WE} 
    (rd : ∀ {G : Hp} {M : Mh} {H : Hp} {s : TSt} {σ : St} {t : T} {v : V} {b : List (Nat × T)} {Q : St → Hp → Prop}, Stt G M H → RepS G s σ → Rep G t v → bd t = some b →
      (∀ σ2, L2.wipe σ2 vs = L2.wipe σ vs → RepS G (setsT (twipe s vs) b) σ2 → Q σ2 H) → g v (L2.wipe σ vs) H Q)
    (σ : St) (H : Hp) (Q : VK) (h : lE (wLc wi vs bd tt te) σ H Q) : tLc (lI wi) g (lT tt) (lE te) vs σ H Q := by
  obtain ⟨G, M, s, Qt, S, R, w, k⟩ := h
  refine ⟨G, M, s, _, S, R, w, fun ts keep M1 G1 H1 J ⟨I, i0, ik, turn, fin⟩ x ok D hD => ?_⟩
  have gD := x.st.gnone hD
  have mD := x.st.mnone hD
  refine ⟨fun n m H' => m = ts.length - n ∧ n ≤ ts.length ∧ ∃ G' M' acc us, I n acc M' ∧ Ext G1 M1 H1 G' M' H' ∧ G' D = none ∧ M' D = none ∧ H' D = some (.lst us) ∧ Reps G' acc us,
    ⟨_, rfl, Nat.zero_le _, G1, M1, [], [], i0, (Ext.refl x.st).side hD gD mD, gD, mD, upd_same, Reps.nil⟩, ?_⟩
  rintro n m H' ⟨rfl, hn, G', M', acc, us, i1, x1, g1, m1, h1, r1⟩
  obtain ⟨o1, o2, o3⟩ := ok G' M' H' x1 (ik n acc M' i1)
  by_cases hlt : n < ts.length
  · refine .inr ⟨o1 n hlt, fun H2 => ∃ G' M' acc us, I (n + 1) acc M' ∧ Ext G1 M1 H1 G' M' H2 ∧ G' D = none ∧ M' D = none ∧ H2 D = some (.lst us) ∧ Reps G' acc us, fun H2 z => ⟨ts.length - (n + 1), by omega, rfl, hlt, z⟩, fun y H2 hy => ?_⟩
    obtain ⟨G2, t, x2, et, rt⟩ := o3 n y H2 hlt hy
    obtain ⟨b, hb, tn⟩ := turn n acc M' t et i1
    refine rd x2.st ((R.mono (x.gs.trans x1.gs)).mono x2.gs) rt hb fun σ2 hw r2 => ⟨hw, G2, M', _, _, x2.st, r2, tn, fun c M3 G3 H3 q x3 => ?_⟩
    have x13 := (x1.trans x2).trans x3
    have g3 : G3 D = none := by rw [(x2.trans x3).fr D _ h1 m1]; exact g1
    have m3 : M3 D = none := (x2.trans x3).fm D _ h1 m1
    have h3 : H3 D = some (.lst us) := (x2.trans x3).hs D _ h1 m1
    cases c with
    | true =>
      dsimp only
      rw [if_pos rfl]
      refine ⟨G3, M3, _, _, x3.st, r2.mono x3.gs, q.1 rfl, fun y M4 G4 H4 yv ⟨hz, q4⟩ x4 ry => ?_⟩
      have g4 : G4 D = none := by rw [x4.fr D _ h3 m3]; exact g3
      have m4 : M4 D = none := x4.fm D _ h3 m3
      have h4 : H4 D = some (.lst us) := x4.hs D _ h3 m3
      have r4 : Reps G4 acc us := ((r1.mono x2.gs).mono x3.gs).mono x4.gs
      exact ⟨us, h4, by rw [← r4.len]; exact szl hz, G4, M4, _, _, q4, (x13.trans x4).side hD g4 m4, g4, m4, upd_same, r4.append (.cons ry .nil)⟩
    | false =>
      exact ⟨G3, M3, acc, us, q.2 rfl, x13, g3, m3, h3, (r1.mono x2.gs).mono x3.gs⟩
  · have e : n = ts.length := by omega
    subst e
    refine .inl ⟨o2, ?_⟩
    have x2 := x1.sideSeal hD g1 m1 h1
    refine k (.lst acc) M' _ H' _ (fin acc M' i1) (x.trans x2) ?_
    unfold Rep
    exact ⟨D, us, rfl, upd_same, r1.mono (fun b o e => by rw [upd_ne (ne_of_none e g1)]; exact e)⟩
theorem wLc_mono {wi : WI} {vs : List Nat} {bd : BindT} {tt : WT} {te : WE} (hi : ∀ s M Q Q', (∀ ts k M', Q ts k M' → Q' ts k M') → wi s M Q → wi s M Q') :
    ∀ s M Q Q', (∀ r M', Q r M' → Q' r M') → wLc wi vs bd tt te s M Q → wLc wi vs bd tt te s M Q' :=
  fun s M Q Q' i z => hi s M _ _ (fun ts keep M1 ⟨I, i0, ik, turn, fin⟩ => ⟨I, i0, ik, turn, fun acc M' q => i _ _ (fin acc M' q)⟩) z
def bd1 (i : Nat) : BindT := fun t => some [(i, t)]
theorem bd1_read (i : Nat) {G : Hp} {M : Mh} {H : Hp} {s : TSt} {σ : St} {t : T} {v : V} {b : List (Nat × T)} {Q : St → Hp → Prop} (S : Stt G M H) (R : RepS G s σ) (r : Rep G t v) (h : bd1 i t = some b)
    (k : ∀ σ2, L2.wipe σ2 [i] = L2.wipe σ [i] → RepS G (setsT (twipe s [i]) b) σ2 → Q σ2 H) : gName i v (L2.wipe σ [i]) H Q := by
  cases h
  refine k _ ?_ ((R.wipe [i]).set r i)
  show ((σ.set i none).set i (some v)).set i none = σ.set i none
  rw [List.set_set, List.set_set]
def bd2 (i j : Nat) : BindT := fun t => match t with
  | .tup [a, b] => some [(i, a), (j, b)]
  | _ => none
theorem bd2_read {K : PySem.W.Frag} (i j : Nat) {G : Hp} {M : Mh} {H : Hp} {s : TSt} {σ : St} {t : T} {v : V} {b : List (Nat × T)} {Q : St → Hp → Prop} (S : Stt G M H) (R : RepS G s σ) (r : Rep G t v) (h : bd2 i j t = some b)
    (k : ∀ σ2, L2.wipe σ2 [i, j] = L2.wipe σ [i, j] → RepS G (setsT (twipe s [i, j]) b) σ2 → Q σ2 H) : gTup K 2 (gCons (gName i) (gCons (gName j) gNil)) v (L2.wipe σ [i, j]) H Q := by
  unfold bd2 at h
  split at h
  · cases h
    rename_i x y
    unfold Rep at r
    obtain ⟨a, vs, rfl, ga, rs⟩ := r
    unfold Reps at rs
    obtain ⟨v1, q1, rfl, r1, rs⟩ := rs
    unfold Reps at rs
    obtain ⟨v2, q2, rfl, r2, rs⟩ := rs
    unfold Reps at rs
    subst rs
    refine ⟨a, _, rfl, SqT.of (S.gh _ _ ga), rfl, v1, [v2], rfl, v2, [], rfl, rfl, k _ ?_ (((R.wipe [i, j]).set r1 i).set r2 j)⟩
    show (((((σ.set j none).set i none).set i (some v1)).set j (some v2)).set j none).set i none = (σ.set j none).set i none
    rw [List.set_set, List.set_set]
    by_cases e : i = j
    · subst e
      simp only [List.set_set]
    · rw [List.set_comm _ _ e, List.set_set, List.set_set]
  · cases h
section
variable {X : Cx}
theorem qe_lc1 (i : Nat) {x : Str} {elt iter : Expr} {ifs : List Expr} {scope : Scope} {pos tp : Pos} {wi : WI} {tt : WT} {te : WE} (hc : X.calm = true) (hN : X.N.Nodup) (hi : QI X (.Name x tp) iter wi) (ok : BlkOk X.N X.env.scope scope [(x, i)])
    (ht : ∀ (s : Shared) (H : Hp) (C : Addr) (cl : List (Str × Addr)) (fp : List Addr), QTs (X.blk s H scope (compEnvC scope cl C X.env) fp) ifs tt)
    (he : ∀ (s : Shared) (H : Hp) (C : Addr) (cl : List (Str × Addr)) (fp : List Addr), QE (X.blk s H scope (compEnvC scope cl C X.env) fp) elt te)
    (hx : ∀ cl C, Loc (compEnvC scope cl C X.env).scope x := by intro _ _; first | exact Or.inl rfl | exact Or.inr rfl) (hf : ∀ (s : Shared) (H : Hp) (C : Addr) (cl : List (Str × Addr)) (fp : List Addr), (X.blk s H scope (compEnvC scope cl C X.env) fp).fn x = true ∨ (compEnvC scope cl C X.env).scope.names.lookup x = some .local := by intro _ _ _ _ _; first | exact .inl rfl | exact .inr rfl) (hs : ∀ x, foldedSetIterable iter X.env x = pure x := by intro _; rfl) :
    QE X (.ListComp elt [⟨.Name x tp, iter, ifs, 0⟩] scope pos) (wLc wi [i] (bd1 i) tt te) :=
  ⟨PEw (pe_lc hc hN hi.pi ok (fun s H C cl fp => pg_name (X := X.blk s H scope (compEnvC scope cl C X.env) fp) hN (ok.ix (x, i) (List.mem_cons_self ..)) (hx cl C) (hf s H C cl fp)) (fun s H C cl fp => (ht s H C cl fp).pt) (fun s H C cl fp => (he s H C cl fp).pe) hs) (lc_read (bd1_read i)), wLc_mono hi.mono⟩
theorem qs_setLc1 (i j : Nat) {x y : Str} {elt iter : Expr} {ifs : List Expr} {scope : Scope} {pos tp py spos : Pos} {wi : WI} {tt : WT} {te : WE} (hc : X.calm = true) (hN : X.N.Nodup) (hi : QI X (.Name x tp) iter wi) (ok : BlkOk X.N X.env.scope scope [(x, i)])
    (ht : ∀ (s : Shared) (H : Hp) (C : Addr) (cl : List (Str × Addr)) (fp : List Addr), QTs (X.blk s H scope (compEnvC scope cl C X.env) fp) ifs tt)
    (he : ∀ (s : Shared) (H : Hp) (C : Addr) (cl : List (Str × Addr)) (fp : List Addr), QE (X.blk s H scope (compEnvC scope cl C X.env) fp) elt te)
    (hy : X.N[j]? = some y := by rfl) (hyl : X.env.scope.names.lookup y = some .local := by rfl) (hsw : swapsWith (.ListComp elt [⟨.Name x tp, iter, ifs, 0⟩] scope pos) (some (.Name y py)) spos.line X.env = pure true := by exact sw_true rfl rfl rfl rfl)
    (hx : ∀ cl C, Loc (compEnvC scope cl C X.env).scope x := by intro _ _; first | exact Or.inl rfl | exact Or.inr rfl) (hf : ∀ (s : Shared) (H : Hp) (C : Addr) (cl : List (Str × Addr)) (fp : List Addr), (X.blk s H scope (compEnvC scope cl C X.env) fp).fn x = true ∨ (compEnvC scope cl C X.env).scope.names.lookup x = some .local := by intro _ _ _ _ _; first | exact .inl rfl | exact .inr rfl) (hs : ∀ x, foldedSetIterable iter X.env x = pure x := by intro _; rfl) :
    QS X (.Assign [.Name y py] (.ListComp elt [⟨.Name x tp, iter, ifs, 0⟩] scope pos) spos) (wAsg (wLc wi [i] (bd1 i) tt te) (wName j)) := by
  refine ⟨PSw (ps_setLc hc hN hy hyl hsw hi.pi ok (fun s H C cl fp => pg_name (X := X.blk s H scope (compEnvC scope cl C X.env) fp) hN (ok.ix (x, i) (List.mem_cons_self ..)) (hx cl C) (hf s H C cl fp)) (fun s H C cl fp => (ht s H C cl fp).pt) (fun s H C cl fp => (he s H C cl fp).pe) hs) fun D σ H ⟨G, M, s, DT, S, R, z, k⟩ => ?_, wAsg_mono (wLc_mono hi.mono) fun t s M Q Q' i z => i _ _ z⟩
  exact lc_read (bd1_read i) σ H _ ⟨G, M, s, _, S, R, z, fun t M1 G1 H1 v q e r => k.nx _ M1 G1 H1 _ q e ((R.mono e.gs).set r j)⟩
theorem qe_lc2 (i j : Nat) {x y : Str} {elt iter : Expr} {ifs : List Expr} {scope : Scope} {pos tp px py : Pos} {kk : Nat} {wi : WI} {tt : WT} {te : WE} (hc : X.calm = true) (hN : X.N.Nodup) (hi : QI X (.Tuple [.Name x px, .Name y py] kk tp) iter wi) (ok : BlkOk X.N X.env.scope scope [(x, i), (y, j)])
    (ht : ∀ (s : Shared) (H : Hp) (C : Addr) (cl : List (Str × Addr)) (fp : List Addr), QTs (X.blk s H scope (compEnvC scope cl C X.env) fp) ifs tt)
    (he : ∀ (s : Shared) (H : Hp) (C : Addr) (cl : List (Str × Addr)) (fp : List Addr), QE (X.blk s H scope (compEnvC scope cl C X.env) fp) elt te)
    (hx : ∀ cl C, Loc (compEnvC scope cl C X.env).scope x := by intro _ _; first | exact Or.inl rfl | exact Or.inr rfl) (hf : ∀ (s : Shared) (H : Hp) (C : Addr) (cl : List (Str × Addr)) (fp : List Addr), (X.blk s H scope (compEnvC scope cl C X.env) fp).fn x = true ∨ (compEnvC scope cl C X.env).scope.names.lookup x = some .local := by intro _ _ _ _ _; first | exact .inl rfl | exact .inr rfl)
    (hx2 : ∀ cl C, Loc (compEnvC scope cl C X.env).scope y := by intro _ _; first | exact Or.inl rfl | exact Or.inr rfl) (hf2 : ∀ (s : Shared) (H : Hp) (C : Addr) (cl : List (Str × Addr)) (fp : List Addr), (X.blk s H scope (compEnvC scope cl C X.env) fp).fn y = true ∨ (compEnvC scope cl C X.env).scope.names.lookup y = some .local := by intro _ _ _ _ _; first | exact .inl rfl | exact .inr rfl) (hs : ∀ x, foldedSetIterable iter X.env x = pure x := by intro _; rfl) :
    QE X (.ListComp elt [⟨.Tuple [.Name x px, .Name y py] kk tp, iter, ifs, 0⟩] scope pos) (wLc wi [i, j] (bd2 i j) tt te) :=
  ⟨PEw (pe_lc hc hN hi.pi ok (fun s H C cl fp => pg_tup (X := X.blk s H scope (compEnvC scope cl C X.env) fp) hc (pgs_cons (X := X.blk s H scope (compEnvC scope cl C X.env) fp) (e := .Name x px) (pg_name (X := X.blk s H scope (compEnvC scope cl C X.env) fp) hN (ok.ix (x, i) (by simp)) (hx cl C) (hf s H C cl fp)) (pgs_cons (X := X.blk s H scope (compEnvC scope cl C X.env) fp) (e := .Name y py) (pg_name (X := X.blk s H scope (compEnvC scope cl C X.env) fp) hN (ok.ix (y, j) (by simp)) (hx2 cl C) (hf2 s H C cl fp)) pgs_nil))) (fun s H C cl fp => (ht s H C cl fp).pt) (fun s H C cl fp => (he s H C cl fp).pe) hs) (lc_read (bd2_read i j)), wLc_mono hi.mono⟩
end
end Tr

set_option Elab.async false
set_option linter.all false
set_option maxRecDepth 100000
set_option maxHeartbeats 4000000
namespace Tr
open PySem L2
section
variable {X : Cx}
/-! ### owned lists grow -/
def ownL (M : Mh) (x : T) (K : Addr → List T → Prop) : Prop := match x with
  | .adr l => (match M l with
    | some (.lst xs) => K l xs
    | _ => False)
  | _ => False
theorem ownL_x {M : Mh} {x : T} {K : Addr → List T → Prop} (h : ownL M x K) : ∃ l xs, x = .adr l ∧ M l = some (.lst xs) ∧ K l xs := by
  unfold ownL at h
  cases x with
  | adr l =>
    dsimp only at h
    cases e : M l with
    | none => rw [e] at h; cases h
    | some o =>
      rw [e] at h
      cases o with
      | lst xs => exact ⟨l, xs, rfl, e, h⟩
      | _ => cases h
  | _ => cases h
theorem ownL_of {M : Mh} {l : Addr} {xs : List T} {K : Addr → List T → Prop} (e : M l = some (.lst xs)) (k : K l xs) : ownL M (.adr l) K := by
  unfold ownL
  dsimp only
  rw [e]
  exact k
theorem ownL_mono {M : Mh} {x : T} {K K' : Addr → List T → Prop} (i : ∀ l xs, K l xs → K' l xs) (h : ownL M x K) : ownL M x K' := by
  obtain ⟨l, xs, rfl, e, k⟩ := ownL_x h
  exact ownL_of e (i _ _ k)
theorem tyV_own {G : Hp} {M : Mh} {H : Hp} (S : Stt G M H) {x : T} {v : V} (r : Rep G x v) (h : ownL M x fun _ _ => True) : tyV X.K "list" v H := by
  obtain ⟨l, xs, rfl, e, _⟩ := ownL_x h
  unfold Rep at r
  subst r
  obtain ⟨vs, hh, _⟩ := (S.own l _ e).2
  exact .inl ⟨rfl, vs, SqL.of hh⟩
def one1 (ts : List T) (K : T → Prop) : Prop := match ts with
  | [t] => K t
  | _ => False
theorem one1_x {G : Hp} {ts : List T} {vs : List V} {K : T → Prop} (r : Reps G ts vs) (h : one1 ts K) : ∃ t v, ts = [t] ∧ vs = [v] ∧ Rep G t v ∧ K t := by
  unfold one1 at h
  split at h
  · rename_i t
    unfold Reps at r
    obtain ⟨v, q, rfl, r1, r2⟩ := r
    unfold Reps at r2
    subst r2
    exact ⟨t, v, rfl, rfl, r1, h⟩
  · cases h
theorem one1_mono {ts : List T} {K K' : T → Prop} (i : ∀ t, K t → K' t) (h : one1 ts K) : one1 ts K' := by
  unfold one1 at h ⊢
  split at h
  · exact i _ h
  · cases h
def wApp (wo : WE) (wa : WA) : WE := fun s M Q => wo s M fun x M1 => (ownL M1 x fun _ _ => True) ∧ wa s M1 fun ts M2 => one1 ts fun t => ownL M2 x fun l xs => xs.length < 100000 ∧ Q .non (mset M2 l (.lst (xs ++ [t])))
theorem qe_append {o e : Expr} {wo : WE} {wa : WA} {apos cpos : Pos} (ho : QE X o wo) (ha : QA X [e] wa) (hbase : attributeBase o "append" X.env (eval o X.env) = eval o X.env := by rfl)
    (hfew : ((backTo cpos (starEach [e] X.env)).all (fun x => !x.1) && (backToKw cpos (keywordEach [] X.env)).all (fun x => x.1.isSome)
      && decide (([e] : List Expr).length + ([] : List Keyword).length + (if ([] : List Keyword).isEmpty then 0 else 1) < 30)) = true := by rfl)
    (hline : (apos.endLine == cpos.line) = true := by rfl) (hs : starEach [e] X.env = (false, eval e X.env) :: starEach [] X.env := by rfl) (hplain : (backTo cpos (starEach [] X.env)).any (·.1) = false := by rfl) :
    QE X (.Call (.Attribute o "append" apos) [e] [] cpos) (wApp wo wa) := by
  refine ⟨PEw (pe_bm F.plainAttrs_list F.slot_list_append F.type_list_append mt_append ho.pe ha.pa hbase hfew hline hs hplain) fun σ H Q ⟨G, M, s, Qt, S, R, z, k⟩ => ⟨G, M, s, _, S, R, z, fun x M1 G1 H1 v ⟨q0, q⟩ x1 rx => ⟨tyV_own x1.st rx q0, G1, M1, s, _, x1.st, R.mono x1.gs, q, fun ts M2 G2 H2 vs q2 x2 rs => ?_⟩⟩,
    fun s M Q Q' i z => ho.mono s M _ _ (fun x M1 ⟨q0, q⟩ => ⟨q0, ha.mono s M1 _ _ (fun ts M2 q2 => one1_mono (fun t q3 => ownL_mono (fun l xs q4 => ⟨q4.1, i _ _ q4.2⟩) q3) q2) q⟩) z⟩
  obtain ⟨t, w, rfl, rfl, rt, q3⟩ := one1_x rs q2
  obtain ⟨l, xs, rfl, e2, h1, q4⟩ := ownL_x q3
  unfold Rep at rx
  subst rx
  obtain ⟨us, hh, ru⟩ := (x2.st.own l _ e2).2
  have x3 := Ext.write x2.st (u := .lst (us ++ [w])) (o := .lst (xs ++ [t])) e2 ⟨_, upd_same, ru.append (.cons rt .nil)⟩
  exact ⟨l, us, w, rfl, rfl, hh, by rw [← ru.len]; exact szl h1, k .non _ _ _ _ q4 ((x1.trans x2).trans x3) rep_non⟩
def wExtd (wo : WE) (wa : WA) : WE := fun s M Q => wo s M fun x M1 => (ownL M1 x fun _ _ => True) ∧ wa s M1 fun ts M2 => one1 ts fun t => ownL M2 x fun l xs => ∃ zs, view M2 t = some (.lst zs) ∧ xs.length + zs.length < 100000 ∧ Q .non (mset M2 l (.lst (xs ++ zs)))
theorem qe_extend {o e : Expr} {wo : WE} {wa : WA} {apos cpos : Pos} (ho : QE X o wo) (ha : QA X [e] wa) (hbase : attributeBase o "extend" X.env (eval o X.env) = eval o X.env := by rfl)
    (hfew : ((backTo cpos (starEach [e] X.env)).all (fun x => !x.1) && (backToKw cpos (keywordEach [] X.env)).all (fun x => x.1.isSome)
      && decide (([e] : List Expr).length + ([] : List Keyword).length + (if ([] : List Keyword).isEmpty then 0 else 1) < 30)) = true := by rfl)
    (hline : (apos.endLine == cpos.line) = true := by rfl) (hs : starEach [e] X.env = (false, eval e X.env) :: starEach [] X.env := by rfl) (hplain : (backTo cpos (starEach [] X.env)).any (·.1) = false := by rfl) :
    QE X (.Call (.Attribute o "extend" apos) [e] [] cpos) (wExtd wo wa) := by
  refine ⟨PEw (pe_bm F.plainAttrs_list F.slot_list_extend F.type_list_extend mt_extend ho.pe ha.pa hbase hfew hline hs hplain) fun σ H Q ⟨G, M, s, Qt, S, R, z, k⟩ => ⟨G, M, s, _, S, R, z, fun x M1 G1 H1 v ⟨q0, q⟩ x1 rx => ⟨tyV_own x1.st rx q0, G1, M1, s, _, x1.st, R.mono x1.gs, q, fun ts M2 G2 H2 vs q2 x2 rs => ?_⟩⟩,
    fun s M Q Q' i z => ho.mono s M _ _ (fun x M1 ⟨q0, q⟩ => ⟨q0, ha.mono s M1 _ _ (fun ts M2 q2 => one1_mono (fun t q3 => ownL_mono (fun l xs ⟨zs, h1, h2, h3⟩ => ⟨zs, h1, h2, i _ _ h3⟩) q3) q2) q⟩) z⟩
  obtain ⟨t, w, rfl, rfl, rt, q3⟩ := one1_x rs q2
  obtain ⟨l, xs, rfl, e2, zs, hv, h1, q4⟩ := ownL_x q3
  unfold Rep at rx
  subst rx
  obtain ⟨us, hh, ru⟩ := (x2.st.own l _ e2).2
  obtain ⟨b, ws, rfl, hb, rw'⟩ := view_lst x2.st rt hv
  have x3 := Ext.write x2.st (u := .lst (us ++ ws)) (o := .lst (xs ++ zs)) e2 ⟨_, upd_same, ru.append rw'⟩
  exact ⟨l, b, us, ws, rfl, rfl, hh, hb, by rw [← ru.len, ← rw'.len]; exact Nat.le_of_lt (szl h1), k .non _ _ _ _ q4 ((x1.trans x2).trans x3) rep_non⟩
/-! ### d.pop(k) of an owned dict -/
def popW (M : Mh) (x y : T) (Q : TQ) : Prop := match x, keyT y with
  | .adr a, some k => ∃ kvs t, M a = some (.dic .un kvs) ∧ kget k kvs = some t ∧ Q t (mset M a (.dic .un (kdrop k kvs)))
  | _, _ => False
theorem popW_x {M : Mh} {x y : T} {Q : TQ} (h : popW M x y Q) : ∃ a k kvs t, x = .adr a ∧ keyT y = some k ∧ M a = some (.dic .un kvs) ∧ kget k kvs = some t ∧ Q t (mset M a (.dic .un (kdrop k kvs))) := by
  unfold popW at h
  cases x with
  | adr a =>
    cases e : keyT y with
    | none => rw [e] at h; cases h
    | some k =>
      rw [e] at h
      obtain ⟨kvs, t, h⟩ := h
      exact ⟨a, k, kvs, t, rfl, rfl, h⟩
  | _ => cases h
theorem popW_of {M : Mh} {y : T} {Q : TQ} {a : Addr} {k : Key} {kvs : List (Key × T)} {t : T} (e : keyT y = some k) (h1 : M a = some (.dic .un kvs)) (h2 : kget k kvs = some t) (q : Q t (mset M a (.dic .un (kdrop k kvs)))) : popW M (.adr a) y Q := by
  unfold popW
  rw [e]
  exact ⟨kvs, t, h1, h2, q⟩
def wPop (wo wk : WE) : WE := fun s M Q => wo s M fun x M1 => (∃ o, view M1 x = some o ∧ ∃ lk kvs, o = .dic lk kvs) ∧ wk s M1 fun y M2 => popW M2 x y Q
theorem qe_dpop {o e : Expr} {wo wk : WE} {apos cpos : Pos} (ho : QE X o wo) (hk : QE X e wk) (m : M1 X o "pop" apos e cpos := by exact ⟨rfl, rfl, rfl, rfl⟩) : QE X (.Call (.Attribute o "pop" apos) [e] [] cpos) (wPop wo wk) := by
  refine ⟨PEw (pe_dpop1 ho.pe hk.pe m) fun σ H Q ⟨G, M, s, Qt, S, R, z, k⟩ => ⟨G, M, s, _, S, R, z, fun x M1 G1 H1 v ⟨⟨o, ho, lk, kvs, eo⟩, q⟩ x1 rx => ?_⟩,
    fun s M Q Q' i z => ho.mono s M _ _ (fun x M1 ⟨q0, q⟩ => ⟨q0, hk.mono s M1 _ _ (fun y M2 q2 => by
      obtain ⟨a, k, kvs, t, rfl, h1, h2, h3, q3⟩ := popW_x q2
      exact popW_of h1 h2 h3 (i _ _ q3)) q⟩) z⟩
  subst eo
  obtain ⟨a, vs, rfl, hh, rk⟩ := view_dic x1.st rx ho
  refine ⟨a, rfl, .inl ⟨vs, hh⟩, G1, M1, s, _, x1.st, R.mono x1.gs, q, fun y M2 G2 H2 yv q2 x2 ry => ?_⟩
  obtain ⟨a', kk, kvs2, t, rfl, h1, h2, h3, q3⟩ := popW_x q2
  unfold Rep at rx
  have e1 : a = a' := V.ref.inj rx
  subst e1
  obtain ⟨us, hu, ru⟩ := (x2.st.own _ _ h2).2
  obtain ⟨w, hw, rw'⟩ := (RepK.val ru).1 t h3
  have x3 := Ext.write x2.st (u := .dK (dropK us kk)) (o := .dic .un (kdrop kk kvs2)) h2 ⟨_, upd_same, ru.drop⟩
  exact ⟨us, kk, w, hu, keyT_rep h1 ry, hw, k _ _ _ _ _ q3 ((x1.trans x2).trans x3) (rw'.mono x3.gs)⟩
/-! ### ''.join of a list of texts -/
def joinW (x y : T) (M : Mh) (Q : TQ) : Prop := match x, y with
  | .str a, .lst ts => ∃ ys : List Str, ts = ys.map T.str ∧ (ys.map (·.length)).sum + ys.length * a.length ≤ 16777216 ∧ Q (.str (Txt.join a ys)) M
  | _, _ => False
def wJoin (wo we : WE) : WE := fun s M Q => wo s M fun x M1 => (∃ a, x = .str a) ∧ we s M1 fun y M2 => joinW x y M2 Q
theorem qe_join {o e : Expr} {wo we : WE} {apos pos : Pos} (ho : QE X o wo) (he : QE X e we) (hs : starEach [e] X.env = [(false, eval e X.env)] := by rfl) (hbase : attributeBase o "join" X.env (eval o X.env) = eval o X.env := by rfl) (hline : (apos.endLine == pos.line) = true := by rfl) :
    QE X (.Call (.Attribute o "join" apos) [e] [] pos) (wJoin wo we) := by
  refine ⟨PEw (pe_join ho.pe he.pe hs hbase hline) fun σ H Q ⟨G, M, s, Qt, S, R, z, k⟩ => ⟨G, M, s, _, S, R, z, fun x M1 G1 H1 v ⟨⟨a, ea⟩, q⟩ x1 rx => ?_⟩,
    fun s M Q Q' i z => ho.mono s M _ _ (fun x M1 ⟨q0, q⟩ => ⟨q0, he.mono s M1 _ _ (fun y M2 q2 => by
      unfold joinW at q2 ⊢
      split at q2
      · obtain ⟨ys, h1, h2, h3⟩ := q2
        exact ⟨ys, h1, h2, i _ _ h3⟩
      · cases q2) q⟩) z⟩
  subst ea
  unfold Rep at rx
  refine ⟨⟨a, rx⟩, G1, M1, s, _, x1.st, R.mono x1.gs, q, fun y M2 G2 H2 yv q2 x2 ry => ?_⟩
  unfold joinW at q2
  cases y with
  | lst ts =>
    obtain ⟨ys, rfl, h1, q3⟩ := q2
    unfold Rep at ry
    obtain ⟨p, vs, rfl, gp, rs⟩ := ry
    have e := rs.strs
    subst e
    exact ⟨a, p, ys, rx, rfl, .inl (SqL.of (x2.st.gh _ _ gp)), h1, k _ _ _ _ _ q3 (x1.trans x2) rep_str⟩
  | _ => cases q2
/-! ### a tuple's tail -/
def tailW (x l : T) (M : Mh) (Q : TQ) : Prop := match x, l with
  | .tup ts, .int i => i = 1 ∧ Q (.tup (ts.drop 1)) M
  | _, _ => False
def wTail (wo wl : WE) : WE := fun s M Q => wo s M fun x M1 => wl s M1 fun l M2 => tailW x l M2 Q
theorem qe_tail {e l : Expr} {wo wl : WE} {pos p2 : Pos} (ho : QE X e wo) (hl : QE X l wl) : QE X (.Subscript e (.Slice (some l) none none p2) pos) (wTail wo wl) := by
  refine ⟨PEw (pe_slice sl_tupA ho.pe (po_some hl.pe) po_none) fun σ H Q ⟨G, M, s, Qt, S, R, z, k⟩ => ⟨G, M, s, _, S, R, z, fun x M1 G1 H1 v q x1 rx => ⟨G1, M1, s, _, x1.st, R.mono x1.gs, q, fun l M2 G2 H2 lv q2 x2 rl => ?_⟩⟩,
    fun s M Q Q' i z => ho.mono s M _ _ (fun x M1 q => hl.mono s M1 _ _ (fun y M2 q2 => by
      unfold tailW at q2 ⊢
      split at q2
      · exact ⟨q2.1, i _ _ q2.2⟩
      · cases q2) q) z⟩
  unfold tailW at q2
  cases x with
  | tup ts =>
    cases l with
    | int j =>
      obtain ⟨rfl, q3⟩ := q2
      unfold Rep at rx rl
      obtain ⟨a, vs, rfl, ga, rs⟩ := rx
      subst rl
      have ga2 := x2.gs _ _ ga
      have rs2 := rs.mono x2.gs
      refine ⟨1, rfl, a, vs, rfl, SqT.of (x2.st.gh _ _ ga2), fun hh => ?_, fun _ p hp => ?_⟩
      · have e1 : vs.length = 0 := by
          have h0 := hh.1
          rw [show (1 : Int) = ((1 : Nat) : Int) from rfl, HT.sIx_nat] at h0
          omega
        have e2 : ts = [] := List.eq_nil_of_length_eq_zero (by rw [rs.len]; exact e1)
        subst e2
        refine k _ _ _ _ _ q3 (x1.trans x2) ?_
        unfold Rep
        exact ⟨a, vs, rfl, ga2, rs2⟩
      · have e1 : cutV vs (some 1) none = vs.drop 1 := by
          unfold cutV
          rw [show (1 : Int) = ((1 : Nat) : Int) from rfl, HT.sIx_nat, HT.sIx_none]
          by_cases h : 1 ≤ vs.length
          · rw [Nat.min_eq_left h]
            apply List.take_of_length_le
            rw [List.length_drop]
            omega
          · have h0 : vs = [] := List.eq_nil_of_length_eq_zero (by omega)
            subst h0
            rfl
        rw [e1]
        have x3 := Ext.solid x2.st (o := .tup (vs.drop 1)) hp
        refine k _ _ _ _ _ q3 ((x1.trans x2).trans x3) ?_
        unfold Rep
        exact ⟨p, _, rfl, upd_same, (rs2.mono x3.gs).drop 1⟩
    | _ => cases q2
  | _ => cases q2
end
end Tr

set_option Elab.async false
set_option linter.all false
set_option maxRecDepth 100000
set_option maxHeartbeats 4000000
/-! Sets of keys (ints, texts) with a table that rises: made of a list or a tuple, sorted, measured. -/
namespace Tr
open PySem PySem.Spec PyProof.Rows L2
def mkey (v : Value) : Key := match v with
  | .int i _ => .inl i
  | .str x _ => .inr x
  | _ => .inl 0
theorem mkey_of {k : Key} {v : Value} (h : keyIs k v = true) : mkey v = k := by
  rcases keyIs_shape h with ⟨i, t, e1, e2⟩ | ⟨x, t, e1, e2⟩ <;> (rw [e1, e2]; rfl)
theorem mscan {k : Key} {v : Value} (h : keyIs k v = true) : v.scannable = true := by
  rcases keyIs_shape h with ⟨i, t, e1, e2⟩ | ⟨x, t, e1, e2⟩ <;> (rw [e2]; rfl)
def MemE (w : World) (e : Int × Value) : Prop := ∃ k, keyIs k e.2 = true ∧ e.1 = keyH w k
def kE (e : Int × Value) : Key := mkey e.2
theorem MemE.elems {P : Program} {w : World} {l : List (Int × Value)} (g : ∀ e ∈ l, MemE w e) : ElemsOf (mixKind P w) l := fun e he =>
  let ⟨k, a, b⟩ := g e he
  ⟨⟨k, a, b⟩, mscan a⟩
theorem MemE.is {w : World} {e : Int × Value} (g : MemE w e) (k : Key) : keyIs k e.2 = true ↔ kE e = k := by
  obtain ⟨k0, a, _⟩ := g
  have e0 : kE e = k0 := mkey_of a
  exact ⟨fun h => mkey_of h, fun h => by rw [← h, e0]; exact a⟩
/-- the set at a: ks its members, in any order and with repeats -/
def SetM (w : World) (h : Heap) (a : Addr) (ks : List Key) : Prop :=
  ∃ o es ep t, h.get? a = some o ∧ (o.ExactSet ∧ o.data = .set es ep t) ∧ ((∀ e ∈ es.toList, MemE w e) ∧ (es.toList.map kE).Nodup ∧ ∀ k, k ∈ ks ↔ k ∈ es.toList.map kE) ∧
    es.size ≤ ks.length ∧ t.fits es.size = true ∧ Ris t.place.toList ∧ (w.params.followText "set-order" = true ∨ t.led = true)
theorem SetM.keep {w : World} {h h' : Heap} {a : Addr} {ks : List Key} (R : SetM w h a ks) (k : ∀ o, h.get? a = some o → h'.get? a = some o) : SetM w h' a ks :=
  let ⟨o, es, ep, t, ho, r⟩ := R
  ⟨o, es, ep, t, k o ho, r⟩
section
variable {P : Program} {w : World} {A : Around} {E : Value → Shared → Prop} {s : Shared} {a : Addr}
/-- what is stored, the table laid anew where it is too full -/
theorem setM_store {go : Bool → Sem Unit} (quiet : ∀ (b : Bool) (s1 : Shared) (Z : Unit → Shared → Prop), Z () s1 → wpAny (model P w) A (go b) Z E s1)
    {o : Obj} {old new : Array (Int × Value)} {ep : Nat} {t tn : SetTable} {ks : List Key} (ho : s.heap.get? a = some o) (hex : o.ExactSet) (hd : o.data = .set old ep t)
    (good : (∀ e ∈ new.toList, MemE w e) ∧ (new.toList.map kE).Nodup ∧ ∀ k, k ∈ ks ↔ k ∈ new.toList.map kE) (hks : new.size ≤ ks.length) (room : ks.length < scanBound)
    (fit : tn.fits new.size = true) (rise : Ris tn.place.toList) (led : w.params.followText "set-order" = true ∨ tn.led = true) {dummy : Bool} {R : Option Bool → Shared → Prop}
    (fin : ∀ h', Heap.SameBut a s.heap h' → SetM w h' a ks → R (some true) { s with heap := h' }) :
    wpAny (model P w) A (do
        storeSet a new tn
        if (!dummy && tn.tooFull) = true then do
            go (relayAll tn new (SetTable.grown new.size)).2.2
            storeSet a (relayAll tn new (SetTable.grown new.size)).1 (relayAll tn new (SetTable.grown new.size)).2.1
            pure (some true)
          else pure (some true)) R E s := by
  have small : new.size < scanBound := Nat.lt_of_le_of_lt hks room
  refine wpAny_bind (wpAny_storeSet_of ho hd ?_ (fits_of_scanBound small))
  have at1 := store_at (es' := new) (t' := tn) ho hd
  have same1 := Heap.SameBut.update s.heap a (Obj.putSet new tn)
  split
  · have perm := relayAll_perm tn new (SetTable.grown new.size)
    have fitR := relayAll_fits tn new (SetTable.grown new.size)
    have risR := relayAll_ris tn new (SetTable.grown new.size)
    have ledR := relayAll_led tn new (SetTable.grown new.size)
    generalize relayAll tn new (SetTable.grown new.size) = Z at perm fitR risR ledR ⊢
    obtain ⟨esR, tR, gave⟩ := Z
    dsimp only at perm fitR risR ledR ⊢
    have sizeR : esR.size = new.size := by rw [← Array.length_toList, perm.length_eq, Array.length_toList]
    refine wpAny_bind (quiet _ _ _ ?_)
    refine wpAny_bind (wpAny_storeSet_of at1 rfl ?_ (fits_of_scanBound (by rw [sizeR]; exact small)))
    refine wpAny_pure (fin _ (same1.trans (Heap.SameBut.update _ a _)) ⟨_, esR, _, tR, store_at (es' := esR) (t' := tR) at1 rfl, ⟨hex, rfl⟩, ⟨fun e he => good.1 e (perm.mem_iff.mp he), ?_, fun k => ?_⟩, ?_, fitR, risR, ?_⟩)
    · exact (perm.map kE).nodup_iff.mpr good.2.1
    · exact (good.2.2 k).trans (perm.map kE).mem_iff.symm
    · rw [sizeR]; exact hks
    · rw [ledR]; exact led
  · exact wpAny_pure (fin _ same1 ⟨_, new, _, tn, at1, ⟨hex, rfl⟩, good, hks, fit, rise, led⟩)
/-- one more member, its hash known -/
theorem setM_add {ks : List Key} {k : Key} {v : Value} {Q : Bool → Shared → Prop} (hv : keyIs k v = true) (R : SetM w s.heap a ks) (room : ks.length + 1 < scanBound)
    (hQ : ∀ b h', Heap.SameBut a s.heap h' → SetM w h' a (ks ++ [k]) → Q b { s with heap := h' }) :
    wpAny (model P w) A (setAddHashed a v (keyH w k)) Q E s := by
  obtain ⟨o, es, ep, t, ho, ⟨hex, hd⟩, ⟨g, nd, hm⟩, hn, hf, hr, hl⟩ := R
  have isk : (mixKind P w).is k v = true := hv
  have scan := mscan hv
  have elems : ElemsOf (mixKind P w) es.toList := MemE.elems g
  have small : es.size < scanBound := by omega
  have len1 : (ks ++ [k]).length = ks.length + 1 := by simp
  unfold setAddHashed setAddHashedIn
  refine wpAny_holding (wpAny_bind (wpAny_setState_of ho hd hf ?_))
  dsimp only
  rw [byScan_of scan small elems]
  simp only [↓reduceIte]
  unfold setAddByScan
  refine wpAny_bind ?_
  refine wpAny_bind (wpAny_rule ?_)
  refine wpAny_bind (wpAny_setScan_of isk ho hd hf elems ?_)
  cases met : List.findIdx? (fun e => (mixKind P w).is k e.2) es.toList with
  | some j =>
    dsimp only
    obtain ⟨hj, pj, _⟩ := List.findIdx?_eq_some_iff_getElem.mp met
    have inE : k ∈ es.toList.map kE := List.mem_map.mpr ⟨es.toList[j], List.getElem_mem hj, ((g _ (List.getElem_mem hj)).is k).1 pj⟩
    refine wpAny_pure (wpAny_pure (hQ _ s.heap (Heap.SameBut.refl a s.heap) ⟨o, es, ep, t, ho, ⟨hex, hd⟩, ⟨g, nd, fun i => ?_⟩, by omega, hf, hr, hl⟩))
    rw [List.mem_append, List.mem_singleton, hm i]
    exact ⟨fun z => z.elim id fun e => e ▸ inE, .inl⟩
  | none =>
    dsimp only
    have notE : k ∉ es.toList.map kE := fun z => by
      obtain ⟨e, he, q⟩ := List.mem_map.mp z
      have c := List.findIdx?_eq_none_iff.mp met e he
      rw [show (mixKind P w).is k e.2 = true from ((g e he).is k).2 q] at c
      cases c
    have calm : ∀ (b : Bool) {s1 : Shared} {Z : Unit → Shared → Prop}, Z () s1 → wpAny (model P w) A (match b with | true => rule "set.scan.the-table-gave-way" | false => pure ()) Z E s1 :=
      fun b s1 Z q => by cases b <;> first | exact wpAny_pure q | exact wpAny_rule q
    have perm := layNew_perm t es ((mixKind P w).hash k) v
    have fit1 := layNew_fits t es ((mixKind P w).hash k) v
    have ris1 := layNew_ris t es ((mixKind P w).hash k) v hr
    have led1 := layNew_led t es ((mixKind P w).hash k) v
    rw [show keyH w k = (mixKind P w).hash k from rfl]
    generalize layNew t es ((mixKind P w).hash k) v = Z at perm fit1 ris1 led1 ⊢
    obtain ⟨es1, t1, dummy, gave⟩ := Z
    dsimp only at perm fit1 ris1 led1 ⊢
    rw [Array.toList_push] at perm
    have pc : es1.toList.Perm (((mixKind P w).hash k, v) :: es.toList) := perm.trans (List.perm_append_singleton _ _)
    have pk : (es1.toList.map kE).Perm (k :: es.toList.map kE) := by
      have z := pc.map kE
      rw [List.map_cons, show kE ((mixKind P w).hash k, v) = k from mkey_of hv] at z
      exact z
    have good : (∀ e ∈ es1.toList, MemE w e) ∧ (es1.toList.map kE).Nodup ∧ ∀ i, i ∈ ks ++ [k] ↔ i ∈ es1.toList.map kE := by
      refine ⟨fun e he => ?_, pk.nodup_iff.mpr (List.nodup_cons.mpr ⟨notE, nd⟩), fun i => ?_⟩
      · rcases List.mem_cons.mp (pc.mem_iff.mp he) with z | z
        · rw [z]; exact ⟨k, hv, rfl⟩
        · exact g e z
      · rw [List.mem_append, List.mem_singleton, hm i, pk.mem_iff, List.mem_cons]
        exact Or.comm
    have size1 : es1.size ≤ (ks ++ [k]).length := by
      rw [← Array.length_toList, pc.length_eq, List.length_cons, Array.length_toList, len1]
      omega
    have room1 : (ks ++ [k]).length < scanBound := by rw [len1]; exact room
    have ledN : w.params.followText "set-order" = true ∨ t1.led = true := hl.imp id fun z => by rw [led1]; exact z
    refine wpAny_bind (calm _ ?_)
    split
    · refine wpAny_bind ?_
      rw [hashByValue_scannable 8 scan]
      refine wpAny_pure ?_
      refine setM_store ?_ ho hex hd good size1 room1 ?_ ?_ ?_ ?_
      · intro b s1 Z q; cases b <;> first | exact wpAny_pure q | exact wpAny_rule q
      · first | (split <;> first | exact fit1 | exact SetTable.fits_plain_off fit1) | exact fit1
      · first | (split <;> exact ris1) | exact ris1
      · first | (split <;> exact ledN) | exact ledN
      · intro h' sb r; dsimp only; exact wpAny_pure (hQ true h' sb r)
    · refine wpAny_bind (wpAny_pure ?_)
      simp only [↓reduceIte]
      refine setM_store ?_ ho hex hd good size1 room1 fit1 ris1 ledN ?_
      · intro b s1 Z q; cases b <;> first | exact wpAny_pure q | exact wpAny_rule q
      · intro h' sb r; dsimp only; exact wpAny_pure (hQ true h' sb r)
/-- the loop that takes in what an iterator yields -/
theorem setM_loop {I : Addr} {fp wr : List Addr} {G : Array GenState → Array GenState → Prop} {n : Nat} {Pv : Nat → Value → Prop} {St : Nat → Shared → Prop} {R : Result → Shared → Prop}
    (W : WalksS P w A.in1 I fp wr G n Pv St) (S : Addr) (apart : S ∉ fp) (ks : List Key) (hn : n = ks.length) (room : ks.length + 1 < scanBound) (yields : ∀ i v, Pv i v → ∃ k, ks[i]? = some k ∧ keyIs k v = true) :
    ∀ (m i : Nat) (s : Shared), n - i = m → i ≤ n → St i s → SetM w s.heap S (ks.take i) →
      (∀ s', Moved (S :: wr) G s s' → SetM w s'.heap S ks → R (.ok (.ret .none)) s') →
      codeAny (model P w) A (.builtin "set.update.loop" ⟨[.ref S, .ref I], []⟩) R s := by
  have notW : S ∉ wr := fun h => apart (W.sub _ h)
  have more : ∀ b ∈ wr, b ∈ S :: wr := fun b hb => List.mem_cons_of_mem _ hb
  intro m
  induction m with
  | zero =>
    intro i s hm hi st hS fin
    have e : i = n := by omega
    subst e
    refine codeAny_builtin F.entry_set_update_loop ?_
    rw [Around.under_plainId F.plain_set_update_loop _]
    show wpAny _ A.in1 (pyNext (.ref I) >>= _) _ _ s
    refine wpAny_bind (W.done s _ _ st fun s' mv => ?_)
    show wpAny _ A.in1 (ret Value.none) _ _ s'
    rw [List.take_of_length_le (by omega)] at hS
    exact wpAny_pure (fin s' (mv.mono more) (hS.keep fun o e => mv.heap S o notW e))
  | succ m ih =>
    intro i s hm hi st hS fin
    have lt : i < n := by omega
    refine codeAny_builtin F.entry_set_update_loop ?_
    rw [Around.under_plainId F.plain_set_update_loop _]
    show wpAny _ A.in1 (pyNext (.ref I) >>= _) _ _ s
    refine wpAny_bind (W.item i s _ _ lt st fun v s' hP st' mv => ?_)
    obtain ⟨k, hk, isk⟩ := yields i v hP
    have hS' : SetM w s'.heap S (ks.take i) := hS.keep fun o e => mv.heap S o notW e
    show wpAny _ A.in1 (holding [v] (setAdd S v) >>= _) _ _ s'
    refine wpAny_bind (wpAny_holding ?_)
    unfold setAdd
    refine wpAny_holding (wpAny_bind ((mixKind P w).pyHash (k := k) isk ?_))
    have li : (ks.take i).length ≤ ks.length := by rw [List.length_take]; exact Nat.min_le_right _ _
    refine setM_add (s := { s' with toks := s'.toks + 1 }) isk hS' (by omega) fun b h' sb hS2 => ?_
    have e2 : ks.take i ++ [k] = ks.take (i + 1) := by rw [List.take_add_one, hk]; rfl
    rw [e2] at hS2
    refine wpAny_pure ⟨plainId_quiet F.plain_set_update_loop _, ih (i + 1) _ (by omega) lt (W.frame _ s' _ _ st' (Nat.le_succ _) fun b hb o e => ?_) hS2 fun s'' mv'' hS'' => fin s'' ?_ hS''⟩
    · rw [sb.2 b (fun h : b = S => apart (by rw [← h]; exact hb))]; exact e
    · refine Moved.trans W.gtrans ((mv.mono more).then_heap (Nat.le_succ _) fun b o hb e => ?_) mv''
      rw [sb.2 b (fun h : b = S => hb (by rw [h]; exact List.mem_cons_self))]; exact e
theorem setM_new {h : Heap} (ho : h.get? a = some { cls := .type "set", dict := none, data := .set #[] 0 (.fresh 0 0 (!w.params.followText "set-order")) }) : SetM w h a [] := by
  refine ⟨_, #[], 0, _, ho, ⟨⟨rfl, rfl, rfl⟩, rfl⟩, ⟨fun e he => by simp at he, by simp, fun k => by simp⟩, Nat.le_refl _, by rfl, List.Pairwise.nil, ?_⟩
  show _ ∨ (!w.params.followText "set-order") = true
  cases w.params.followText "set-order"
  · exact .inr rfl
  · exact .inl rfl
end
end Tr

set_option Elab.async false
set_option linter.all false
set_option maxRecDepth 100000
set_option maxHeartbeats 8000000
namespace Tr
open PySem PySem.Spec PyProof.Rows L2
abbrev set0 (w : World) : Obj := { cls := .type "set", dict := none, data := .set #[] 0 (.fresh 0 0 (!w.params.followText "set-order")) }
section
variable {P : Program} {w : World} {A : Around} {E : Value → Shared → Prop} {s : Shared}
theorem setM_tup {l : Addr} {items : Array Value} (ks : List Key) {Q : Value → Shared → Prop} (calm : A.handled = none) (src : s.heap.IsTuple l items) (size : items.size = ks.length)
    (are : ∀ (i : Nat) (v : Value), items[i]? = some v → ∃ k, ks[i]? = some k ∧ keyIs k v = true) (room : ks.length + 1 < scanBound)
    (fin : ∀ (h' : Heap) (tk : Nat), SetM w h' s.heap.objs.size ks → (∀ b o, s.heap.get? b = some o → h'.get? b = some o) → Q (.ref s.heap.objs.size) { s with heap := h', toks := tk }) :
    wpAny (model P w) A (call (.type "set") [.ref l]) Q E s := by
  obtain ⟨mc, mt, mro⟩ := F.called_set.mro
  have made := F.called_set.made
  have isSub := F.called_set.sub
  refine wpAny_call (codeAny_of_tree ?_); show wpAny _ _ (callAny (.type "set") _) _ _ _
  refine wpAny_pure ⟨Code.quiet_builtin _ (by decide +kernel), codeAny_builtin F.entry_type_call ?_⟩; rw [Around.under_plain (weight_type_call_type "set" [.ref l] []) rfl]
  have notT := F.called_set.notType
  have can := F.called_set.canCreate
  have callT := F.typeCall_set_1 (.ref l)
  repeat (any_goals (first | assumption | wp_step))
  refine codeAny_mono (code_set_led1 (.ref l) (E := E) (Q₁ := fun obj s1 => obj = .ref s.heap.objs.size ∧ s1 = { s with heap := s.heap.push (set0 w) }) ⟨rfl, rfl⟩) fun r s1 hr => ?_
  cases r with
  | error e => exact hr
  | ok fl =>
    cases fl with
    | ret obj =>
      obtain ⟨rfl, rfl⟩ := hr
      have born : (s.heap.push (set0 w)).get? s.heap.objs.size = some (set0 w) := Heap.get?_push_size _ rfl
      have isSet : Shared.TypeIs { s with heap := s.heap.push (set0 w) } (.ref s.heap.objs.size) "set" := ⟨_, born, rfl⟩
      have initL := F.called_set.init.lookup
      have initB := F.called_set.init.bind (.ref s.heap.objs.size)
      repeat (any_goals (first | assumption | wp_step))
      refine codeAny_mono (codeAny_call_builtin (R := wants (fun r s2 => r = .none ∧ ∃ h' tk, s2 = { s with heap := h', toks := tk } ∧ SetM w h' s.heap.objs.size ks ∧
          ∀ b o, s.heap.get? b = some o → h'.get? b = some o) E) F.called_set.init.plain F.entry_set_init (check_set_init_1 isSet ?_)) fun r2 s2 hr2 => ?_
      · obtain ⟨ol, atL, clsL, nl, datL⟩ := src
        obtain ⟨ocls, odict, odata, oslots⟩ := ol
        simp only at clsL datL
        subst clsL; subst datL
        have atL1 : (s.heap.push (set0 w)).get? l = some { cls := .type "tuple", dict := odict, data := .seq items nl, slots := oslots } := Heap.get?_push_of_some _ atL
        have no1 := F.sub_tuple_set
        have no2 := F.sub_tuple_frozenset
        have no3 : (Value.type "tuple" == Value.type "dict") = false := by decide
        have src1 : (s.heap.push (set0 w)).IsTuple l items := ⟨_, atL1, rfl, nl, rfl⟩
        unfold Builtin.«set.__init__» noKeywords Builtin.Frozenset.updateFrom
        generalize hPI : pyIter = PI
        wp_walk
        subst hPI
        refine wpAny_pyIter_tuple src1 (wpAny_bind (wpAny_runValue ?_))
        have ltL : l < s.heap.objs.size := Heap.lt_size atL
        have calm3 : A.in1.in1.in1.handled = none := by simp [calm]
        have ne1 : l ≠ (s.heap.push (set0 w)).objs.size := by
          rw [Heap.size_push]; exact Nat.ne_of_lt (Nat.lt_succ_of_lt ltL)
        have apart : s.heap.objs.size ∉ [(s.heap.push (set0 w)).objs.size, l] := by
          rw [Heap.size_push]; simp only [List.mem_cons, List.mem_singleton, List.not_mem_nil, or_false, not_or]
          exact ⟨Nat.ne_of_lt (Nat.lt_succ_self _), Nat.ne_of_gt ltL⟩
        refine setM_loop ((Walks.tuple calm3 _ l ne1 items).toS) s.heap.objs.size apart ks size room are (items.size - 0) 0 _ (by omega) (Nat.zero_le _) ⟨⟨_, Heap.get?_push_size _ rfl, rfl, rfl⟩, src1.push _⟩ ?_ ?_
        · have got : ((s.heap.push (set0 w)).push { cls := .type "tuple_iterator", data := .fields #[.ref l, .int 0 0] }).get? s.heap.objs.size = some (set0 w) := Heap.get?_push_of_some _ born
          rw [List.take_zero]
          exact setM_new got
        · intro s' mv hS'
          obtain ⟨h', g2, d', tk', os'⟩ := s'
          have eg : g2 = s.gens := mv.gens
          have ed : d' = s.drawn := mv.drawn
          have eo : os' = s.os := mv.os
          subst eg; subst ed; subst eo
          show wpAny _ _ _ _ _ _
          refine wpAny_pure ?_
          show wpAny _ _ (ret Value.none) _ _ _
          refine wpAny_pure ⟨rfl, h', tk', rfl, hS', fun b o e => ?_⟩
          have ltB : b < s.heap.objs.size := Heap.lt_size e
          have neB : b ≠ (s.heap.push (set0 w)).objs.size := by
            rw [Heap.size_push]; exact Nat.ne_of_lt (Nat.lt_succ_of_lt ltB)
          exact mv.heap b o (by simp only [List.mem_cons, List.mem_singleton, List.not_mem_nil, or_false, not_or]; exact ⟨Nat.ne_of_lt ltB, neB⟩) (Heap.get?_push_of_some _ (Heap.get?_push_of_some _ e))
      · cases r2 with
        | error e => exact hr2
        | ok fl2 =>
          cases fl2 with
          | ret r =>
            obtain ⟨rfl, h', tk, rfl, hS', old⟩ := hr2
            repeat (any_goals (first | assumption | wp_step))
            exact fin _ _ hS' old
          | _ => exact hr2.elim
    | _ => exact hr.elim
theorem setM_lst {l : Addr} {items : Array Value} (ks : List Key) {Q : Value → Shared → Prop} (calm : A.handled = none) (src : s.heap.IsList l items) (size : items.size = ks.length)
    (are : ∀ (i : Nat) (v : Value), items[i]? = some v → ∃ k, ks[i]? = some k ∧ keyIs k v = true) (room : ks.length + 1 < scanBound)
    (fin : ∀ (h' : Heap) (tk : Nat), SetM w h' s.heap.objs.size ks → (∀ b o, s.heap.get? b = some o → h'.get? b = some o) → Q (.ref s.heap.objs.size) { s with heap := h', toks := tk }) :
    wpAny (model P w) A (call (.type "set") [.ref l]) Q E s := by
  obtain ⟨mc, mt, mro⟩ := F.called_set.mro
  have made := F.called_set.made
  have isSub := F.called_set.sub
  refine wpAny_call (codeAny_of_tree ?_); show wpAny _ _ (callAny (.type "set") _) _ _ _
  refine wpAny_pure ⟨Code.quiet_builtin _ (by decide +kernel), codeAny_builtin F.entry_type_call ?_⟩; rw [Around.under_plain (weight_type_call_type "set" [.ref l] []) rfl]
  have notT := F.called_set.notType
  have can := F.called_set.canCreate
  have callT := F.typeCall_set_1 (.ref l)
  repeat (any_goals (first | assumption | wp_step))
  refine codeAny_mono (code_set_led1 (.ref l) (E := E) (Q₁ := fun obj s1 => obj = .ref s.heap.objs.size ∧ s1 = { s with heap := s.heap.push (set0 w) }) ⟨rfl, rfl⟩) fun r s1 hr => ?_
  cases r with
  | error e => exact hr
  | ok fl =>
    cases fl with
    | ret obj =>
      obtain ⟨rfl, rfl⟩ := hr
      have born : (s.heap.push (set0 w)).get? s.heap.objs.size = some (set0 w) := Heap.get?_push_size _ rfl
      have isSet : Shared.TypeIs { s with heap := s.heap.push (set0 w) } (.ref s.heap.objs.size) "set" := ⟨_, born, rfl⟩
      have initL := F.called_set.init.lookup
      have initB := F.called_set.init.bind (.ref s.heap.objs.size)
      repeat (any_goals (first | assumption | wp_step))
      refine codeAny_mono (codeAny_call_builtin (R := wants (fun r s2 => r = .none ∧ ∃ h' tk, s2 = { s with heap := h', toks := tk } ∧ SetM w h' s.heap.objs.size ks ∧
          ∀ b o, s.heap.get? b = some o → h'.get? b = some o) E) F.called_set.init.plain F.entry_set_init (check_set_init_1 isSet ?_)) fun r2 s2 hr2 => ?_
      · obtain ⟨ol, atL, clsL, nl, datL⟩ := src
        obtain ⟨ocls, odict, odata, oslots⟩ := ol
        simp only at clsL datL
        subst clsL; subst datL
        have atL1 : (s.heap.push (set0 w)).get? l = some { cls := .type "list", dict := odict, data := .seq items nl, slots := oslots } := Heap.get?_push_of_some _ atL
        have no1 := F.sub_list_set
        have no2 := F.sub_list_frozenset
        have no3 : (Value.type "list" == Value.type "dict") = false := by decide
        have src1 : (s.heap.push (set0 w)).IsList l items := ⟨_, atL1, rfl, nl, rfl⟩
        unfold Builtin.«set.__init__» noKeywords Builtin.Frozenset.updateFrom
        generalize hPI : pyIter = PI
        wp_walk
        subst hPI
        refine wpAny_pyIter_list src1 (wpAny_bind (wpAny_runValue ?_))
        have ltL : l < s.heap.objs.size := Heap.lt_size atL
        have calm3 : A.in1.in1.in1.handled = none := by simp [calm]
        have ne1 : l ≠ (s.heap.push (set0 w)).objs.size := by
          rw [Heap.size_push]; exact Nat.ne_of_lt (Nat.lt_succ_of_lt ltL)
        have apart : s.heap.objs.size ∉ [(s.heap.push (set0 w)).objs.size, l] := by
          rw [Heap.size_push]; simp only [List.mem_cons, List.mem_singleton, List.not_mem_nil, or_false, not_or]
          exact ⟨Nat.ne_of_lt (Nat.lt_succ_self _), Nat.ne_of_gt ltL⟩
        refine setM_loop ((Walks.list calm3 _ l ne1 items).toS) s.heap.objs.size apart ks size room are (items.size - 0) 0 _ (by omega) (Nat.zero_le _) ⟨⟨_, Heap.get?_push_size _ rfl, rfl, rfl⟩, src1.push _⟩ ?_ ?_
        · have got : ((s.heap.push (set0 w)).push { cls := .type "list_iterator", data := .fields #[.ref l, .int 0 0] }).get? s.heap.objs.size = some (set0 w) := Heap.get?_push_of_some _ born
          rw [List.take_zero]
          exact setM_new got
        · intro s' mv hS'
          obtain ⟨h', g2, d', tk', os'⟩ := s'
          have eg : g2 = s.gens := mv.gens
          have ed : d' = s.drawn := mv.drawn
          have eo : os' = s.os := mv.os
          subst eg; subst ed; subst eo
          show wpAny _ _ _ _ _ _
          refine wpAny_pure ?_
          show wpAny _ _ (ret Value.none) _ _ _
          refine wpAny_pure ⟨rfl, h', tk', rfl, hS', fun b o e => ?_⟩
          have ltB : b < s.heap.objs.size := Heap.lt_size e
          have neB : b ≠ (s.heap.push (set0 w)).objs.size := by
            rw [Heap.size_push]; exact Nat.ne_of_lt (Nat.lt_succ_of_lt ltB)
          exact mv.heap b o (by simp only [List.mem_cons, List.mem_singleton, List.not_mem_nil, or_false, not_or]; exact ⟨Nat.ne_of_lt ltB, neB⟩) (Heap.get?_push_of_some _ (Heap.get?_push_of_some _ e))
      · cases r2 with
        | error e => exact hr2
        | ok fl2 =>
          cases fl2 with
          | ret r =>
            obtain ⟨rfl, h', tk, rfl, hS', old⟩ := hr2
            repeat (any_goals (first | assumption | wp_step))
            exact fin _ _ hS' old
          | _ => exact hr2.elim
    | _ => exact hr.elim
end
end Tr


set_option Elab.async false
set_option linter.all false
set_option maxRecDepth 100000
set_option maxHeartbeats 4000000
namespace Tr
open PySem PySem.Spec PyProof.Rows L2
section
variable {P : Program} {w : World} {A : Around} {E : Value → Shared → Prop} {s : Shared} {a : Addr}
/-- the members in a row: any list.sort that serves such values -/
theorem sorted_setM {ks : List Key} {Q : Value → Shared → Prop} (Good : List Value → Array Value → Prop) (R : SetM w s.heap a ks) (calm : A.handled = none) (few : ks.length < 64)
    (sorts : ∀ (A' : Around) (E' : Value → Shared → Prop) (s' : Shared) (a' : Addr) (n : Nat) (vs : List Value) (Z : PySem.Fin → Shared → Prop), s'.heap.get? a' = some (seqObj "list" vs.toArray n) → vs.length < 64 →
      (∀ v ∈ vs, keyIs (mkey v) v = true) → (∀ k, k ∈ ks ↔ k ∈ vs.map mkey) → (∀ out, Good vs out → Z (.done (.ret .none)) { s' with heap := sortedHeap s'.heap a' vs out }) →
      wpAny (model P w) A' (Builtin.«list.sort» ⟨[.ref a'], []⟩) Z E' s')
    (fin : ∀ (s' : Shared) (p : Addr) (vs : List Value) (out : Array Value) (c : Nat), (∀ b o, s.heap.get? b = some o → s'.heap.get? b = some o) → s'.gens = s.gens → s'.os = s.os → s.heap.objs.size ≤ p →
      s'.heap.get? p = some (seqObj "list" out c) → Good vs out → (∀ v ∈ vs, keyIs (mkey v) v = true) → (vs.map mkey).Nodup → (∀ k, k ∈ ks ↔ k ∈ vs.map mkey) → vs.length < 64 → Q (.ref p) s') :
    wpAny (model P w) A (call (.builtin "sorted") [.ref a]) Q E s := by
  obtain ⟨o, es, ep, t, ho, ⟨hex, hd⟩, ⟨g, nd, hm⟩, hn, hf, hr, hl⟩ := R
  refine Calls.call_function_entry kind_sorted plain_sorted entry_sorted (args_sorted1 _) ?_
  unfold Builtin.«sorted»
  refine wpAny_bind (m := checkCount "sorted" 1 1 _) (wpAny_pure (wpAny_bind (collect_set (A := A.in1) calm ⟨o, ho, hex.1, hd⟩ hf (by unfold scanBound; omega) hr hl fun s1 vs k1 hz g1 o1 pm => ?_)))
  have lv : vs.length < 64 := by
    rw [pm.length_eq, List.length_map, Array.length_toList]; omega
  have pk : (vs.map mkey).Perm (es.toList.map kE) := by
    have z := pm.map mkey
    rw [List.map_map] at z
    exact z
  have isv : ∀ v ∈ vs, keyIs (mkey v) v = true := fun v hv => by
    obtain ⟨e, he, q⟩ := List.mem_map.mp (pm.mem_iff.mp hv)
    obtain ⟨k, h1, _⟩ := g e he
    rw [← q, mkey_of h1]
    exact h1
  have mem : ∀ k, k ∈ ks ↔ k ∈ vs.map mkey := fun k => (hm k).trans pk.mem_iff.symm
  refine wpAny_bind (wpAny_newList ?_ (by rw [sizeLine_eq]; omega))
  have atL : (s1.heap.push (seqObj "list" vs.toArray 0)).get? s1.heap.objs.size = some (seqObj "list" vs.toArray 0) := Heap.get?_push_size _ rfl
  refine wpAny_bind (wpAny_holding (wpAny_call_entry slot_list_sort ⟨_, atL, rfl⟩ entry_list_sort (sorts _ _ _ _ _ vs _ atL lv isv mem fun out ok => ⟨_, rfl, ?_⟩) (args_list_sort _)))
  obtain ⟨c, hc⟩ := sortedHeap_at (vs := vs) (out := out) atL
  refine wpAny_pure ⟨_, rfl, fin _ s1.heap.objs.size vs out c (fun b u e => ?_) g1 o1 hz hc ok isv (pk.nodup_iff.mpr nd) mem lv⟩
  have q := k1 b u e
  have lt := Heap.lt_size q
  show (sortedHeap (s1.heap.push (seqObj "list" vs.toArray 0)) s1.heap.objs.size vs out).get? b = some u
  rw [sortedHeap_old (Nat.ne_of_lt lt) (by rw [size_push']; exact Nat.lt_succ_of_lt lt)]
  exact Heap.get?_push_of_some _ q
def GoodI (vs : List Value) (out : Array Value) : Prop := ∃ ns, IntsAre out.toList ns ∧ ns.Perm (vs.map Builtin.Re.reRawOf) ∧ ns.Pairwise (· ≤ ·)
def GoodS (vs : List Value) (out : Array Value) : Prop := ∃ xs, StrsAre out.toList xs ∧ xs.Perm (vs.map strOf) ∧ sortedS xs = true
theorem sorted_setI {ns : List Int} {Q : Value → Shared → Prop} (R : SetM w s.heap a (ns.map Sum.inl)) (calm : A.handled = none) (few : ns.length < 64)
    (fin : ∀ (s' : Shared) (p : Addr) (out : Array Value) (c : Nat) (ms : List Int), (∀ b o, s.heap.get? b = some o → s'.heap.get? b = some o) → s'.gens = s.gens → s'.os = s.os → s.heap.objs.size ≤ p →
      s'.heap.get? p = some (seqObj "list" out c) → IntsAre out.toList ms → ms.Pairwise (· < ·) → (∀ k, k ∈ ms ↔ k ∈ ns) → ms.length < 64 → Q (.ref p) s') :
    wpAny (model P w) A (call (.builtin "sorted") [.ref a]) Q E s := by
  have sh : ∀ vs : List Value, (∀ v ∈ vs, keyIs (mkey v) v = true) → (∀ k, k ∈ ns.map Sum.inl ↔ k ∈ vs.map mkey) → ∀ v ∈ vs, ∃ k tk, v = Value.int k tk := fun vs isv mem v hv => by
    obtain ⟨j, _, e⟩ := List.mem_map.mp ((mem (mkey v)).2 (List.mem_map.mpr ⟨v, hv, rfl⟩))
    rcases keyIs_shape (isv v hv) with ⟨i, t, e1, e2⟩ | ⟨x, t, e1, e2⟩
    · exact ⟨i, t, e2⟩
    · rw [e1] at e; cases e
  refine sorted_setM GoodI R calm (by rw [List.length_map]; exact few) (fun A' E' s' a' n vs Z ho lv isv mem z => list_sort_tree ho (ints_of vs (sh vs isv mem)) lv fun out ms a1 a2 a3 => z out ⟨ms, a1, a2, a3⟩) fun s' p vs out c old hg hos hp hat ⟨ms, a1, a2, a3⟩ isv nd mem lv => ?_
  have em : vs.map mkey = (vs.map Builtin.Re.reRawOf).map Sum.inl := by
    rw [List.map_map]
    refine List.map_congr_left fun v hv => ?_
    obtain ⟨k, t, e⟩ := sh vs isv mem v hv
    rw [e]; rfl
  have nd2 : (vs.map Builtin.Re.reRawOf).Nodup := by
    rw [em] at nd
    exact (List.pairwise_map.mp nd).imp fun h e => h (congrArg _ e)
  refine fin s' p out c ms old hg hos hp hat a1 (lt_of_le_nodup ms a3 (a2.nodup_iff.mpr nd2)) (fun k => ?_) (by rw [a2.length_eq, List.length_map]; exact lv)
  rw [a2.mem_iff]
  have z := mem (Sum.inl k)
  rw [em] at z
  constructor
  · intro h
    obtain ⟨j, h1, h2⟩ := List.mem_map.mp (z.2 (List.mem_map.mpr ⟨k, h, rfl⟩))
    cases h2
    exact h1
  · intro h
    obtain ⟨j, h1, h2⟩ := List.mem_map.mp (z.1 (List.mem_map.mpr ⟨k, h, rfl⟩))
    cases h2
    exact h1
theorem sorted_setS {xs : List Str} {Q : Value → Shared → Prop} (R : SetM w s.heap a (xs.map Sum.inr)) (calm : A.handled = none) (few : xs.length < 64)
    (fin : ∀ (s' : Shared) (p : Addr) (out : Array Value) (c : Nat) (ms : List Str), (∀ b o, s.heap.get? b = some o → s'.heap.get? b = some o) → s'.gens = s.gens → s'.os = s.os → s.heap.objs.size ≤ p →
      s'.heap.get? p = some (seqObj "list" out c) → StrsAre out.toList ms → ms.Nodup → sortedS ms = true → (∀ k, k ∈ ms ↔ k ∈ xs) → ms.length < 64 → Q (.ref p) s') :
    wpAny (model P w) A (call (.builtin "sorted") [.ref a]) Q E s := by
  have sh : ∀ vs : List Value, (∀ v ∈ vs, keyIs (mkey v) v = true) → (∀ k, k ∈ xs.map Sum.inr ↔ k ∈ vs.map mkey) → ∀ v ∈ vs, ∃ k tk, v = Value.str k tk := fun vs isv mem v hv => by
    obtain ⟨j, _, e⟩ := List.mem_map.mp ((mem (mkey v)).2 (List.mem_map.mpr ⟨v, hv, rfl⟩))
    rcases keyIs_shape (isv v hv) with ⟨i, t, e1, e2⟩ | ⟨x, t, e1, e2⟩
    · rw [e1] at e; cases e
    · exact ⟨x, t, e2⟩
  refine sorted_setM GoodS R calm (by rw [List.length_map]; exact few) (fun A' E' s' a' n vs Z ho lv isv mem z => ?_) fun s' p vs out c old hg hos hp hat ⟨ms, a1, a2, a3⟩ isv nd mem lv => ?_
  · have hS := strsAre_map vs (sh vs isv mem)
    refine list_sort_treeK strKind_oneLt ho hS.keysOf (fun v1 v2 rest e => keyKind_strs (by rw [← e]; exact hS)) lv fun st' hp hs => ?_
    obtain ⟨ss, h1, h2, h3⟩ := sorted_out_str hS hp hs
    exact z _ ⟨ss, h1, h2, h3⟩
  have em : vs.map mkey = (vs.map strOf).map Sum.inr := by
    rw [List.map_map]
    refine List.map_congr_left fun v hv => ?_
    obtain ⟨k, t, e⟩ := sh vs isv mem v hv
    rw [e]; rfl
  have nd2 : (vs.map strOf).Nodup := by
    rw [em] at nd
    exact (List.pairwise_map.mp nd).imp fun h e => h (congrArg _ e)
  refine fin s' p out c ms old hg hos hp hat a1 (a2.nodup_iff.mpr nd2) a3 (fun k => ?_) (by rw [a2.length_eq, List.length_map]; exact lv)
  rw [a2.mem_iff]
  have z := mem (Sum.inr k)
  rw [em] at z
  constructor
  · intro h
    obtain ⟨j, h1, h2⟩ := List.mem_map.mp (z.2 (List.mem_map.mpr ⟨k, h, rfl⟩))
    cases h2
    exact h1
  · intro h
    obtain ⟨j, h1, h2⟩ := List.mem_map.mp (z.1 (List.mem_map.mpr ⟨k, h, rfl⟩))
    cases h2
    exact h1
end
/-! ### the calls -/
/-- a solid list or tuple -/
def seqO : T → Option (List T)
  | .lst ts => some ts
  | .tup ts => some ts
  | _ => none
theorem seqO_x {G : Hp} {M : Mh} {H : Hp} (S : Stt G M H) {t : T} {v : V} {ts : List T} (r : Rep G t v) (h : seqO t = some ts) : ∃ a vs, v = .ref a ∧ Reps G ts vs ∧ (H a = some (.lst vs) ∨ H a = some (.tup vs)) := by
  cases t with
  | lst xs =>
    cases h
    unfold Rep at r
    obtain ⟨a, vs, e, g, q⟩ := r
    exact ⟨a, vs, e, q, .inl (S.gh _ _ g)⟩
  | tup xs =>
    cases h
    unfold Rep at r
    obtain ⟨a, vs, e, g, q⟩ := r
    exact ⟨a, vs, e, q, .inr (S.gh _ _ g)⟩
  | _ => cases h
/-- all ints, or all texts -/
def keysOf1 (ts : List T) (ks : List Key) : Prop := (∃ ns : List Int, ts = ns.map T.int ∧ ks = ns.map Sum.inl) ∨ ∃ xs : List Str, ts = xs.map T.str ∧ ks = xs.map Sum.inr
theorem vals_keysI : ∀ {ns : List Int} {us : List Value}, Vals (ns.map V.int) us → us.length = ns.length ∧ ∀ (i : Nat) (v : Value), us[i]? = some v → ∃ k : Key, (ns.map Sum.inl)[i]? = some k ∧ keyIs k v = true := by
  intro ns
  induction ns with
  | nil =>
    intro us r
    cases r
    exact ⟨rfl, fun i v h => by simp at h⟩
  | cons n ns ih =>
    intro us r
    cases r with
    | cons r rr =>
      obtain ⟨l, f⟩ := ih rr
      obtain ⟨t, rfl⟩ := r
      refine ⟨by simp [l], fun i v h => ?_⟩
      cases i with
      | zero =>
        simp at h
        subst h
        exact ⟨.inl n, rfl, show (n == n) = true from beq_self_eq_true n⟩
      | succ i => exact f i v (by simpa using h)
theorem vals_keysS : ∀ {ns : List Str} {us : List Value}, Vals (ns.map V.str) us → us.length = ns.length ∧ ∀ (i : Nat) (v : Value), us[i]? = some v → ∃ k : Key, (ns.map Sum.inr)[i]? = some k ∧ keyIs k v = true := by
  intro ns
  induction ns with
  | nil =>
    intro us r
    cases r
    exact ⟨rfl, fun i v h => by simp at h⟩
  | cons n ns ih =>
    intro us r
    cases r with
    | cons r rr =>
      obtain ⟨l, f⟩ := ih rr
      obtain ⟨t, rfl⟩ := r
      refine ⟨by simp [l], fun i v h => ?_⟩
      cases i with
      | zero =>
        simp at h
        subst h
        exact ⟨.inr n, rfl, show (n == n) = true from beq_self_eq_true n⟩
      | succ i => exact f i v (by simpa using h)
section
variable {X : Cx} {pins : List (Addr × Obj)} {σ : L2.St} {H : Hp} {s : Shared}
/-- set(x): the set is not tracked -/
theorem set_made {E : Value → Shared → Prop} {G : Hp} {M : Mh} {t : T} {v : V} {u : Value} {ts : List T} {ks : List Key} {Q : Value → Shared → Prop} (hc : X.calm = true) (I : Inv X pins σ H s) (S : Stt G M H) (r : Rep G t v) (ru : RelV v u) (h : seqO t = some ts) (hk : keysOf1 ts ks) (few : ks.length + 1 < scanBound)
    (fin : ∀ (a : Addr) (s' : Shared), Inv X pins σ H s' → SetM X.w s'.heap a ks → Q (.ref a) s') : wpAny (model X.prog X.w) X.A (call (.type "set") [u]) Q E s := by
  obtain ⟨a, vs, rfl, rs, hh⟩ := seqO_x S r h
  cases ru
  have key : ∀ its : List Value, Vals vs its → its.toArray.size = ks.length ∧ ∀ (i : Nat) (v : Value), its.toArray[i]? = some v → ∃ k, ks[i]? = some k ∧ keyIs k v = true := fun its rv => by
    rcases hk with ⟨ns, e1, e2⟩ | ⟨ns, e1, e2⟩
    · subst e1 e2
      rw [rs.ints] at rv
      obtain ⟨l, f⟩ := vals_keysI rv
      exact ⟨by simp [l], fun i v e => f i v (by simpa using e)⟩
    · subst e1 e2
      rw [rs.strs] at rv
      obtain ⟨l, f⟩ := vals_keysS rv
      exact ⟨by simp [l], fun i v e => f i v (by simpa using e)⟩
  rcases hh with hh | hh
  · obtain ⟨its, rv, pl, hz⟩ := I.list (SqL.of hh)
    obtain ⟨k1, k2⟩ := key its rv
    exact setM_lst ks (I.ok.hd hc) pl.isList k1 k2 few fun h' tk R old => fin _ _ (I.kept (t' := tk) fun b o e => old b o e) R
  · obtain ⟨its, rv, pl, hz⟩ := I.tuple (SqT.of hh)
    obtain ⟨k1, k2⟩ := key its rv
    exact setM_tup ks (I.ok.hd hc) (show s.heap.IsTuple a its.toArray from pl) k1 k2 few fun h' tk R old => fin _ _ (I.kept (t' := tk) fun b o e => old b o e) R
theorem laid_list {s' : Shared} {p : Addr} {out : Array Value} {c : Nat} {ys : List V} (I : Inv X pins σ H s) (old : ∀ b o, s.heap.get? b = some o → s'.heap.get? b = some o) (hg : s'.gens = s.gens) (ho : s'.os = s.os) (hp : s.heap.objs.size ≤ p)
    (hat : s'.heap.get? p = some (seqObj "list" out c)) (rv : Vals ys out.toList) (hz : ys.length ≤ sizeLine) : H p = none ∧ Inv X pins σ (upd H p (.lst ys)) s' := by
  have hn : H p = none := I.hok.fresh hp
  refine ⟨hn, ?_⟩
  have J : Inv X pins σ (upd H p (.lst ys)) { s with heap := s'.heap, gens := s'.gens, drawn := s'.drawn, toks := s'.toks } :=
    I.call (ch := []) (Un.laid old hp hn) (I.hok.laid old hp ⟨hz, out.toList, c, rv, hat⟩) (by rw [hg]; exact I.bare) (fun _ z => nomatch z)
  have e : s' = { s with heap := s'.heap, gens := s'.gens, drawn := s'.drawn, toks := s'.toks } := by
    cases s'
    cases s
    cases ho
    rfl
  rw [e]
  exact J
end
section
variable {X : Cx}
def sortW (t : T) (M : Mh) (Q : TQ) : Prop := ∃ ts, seqO t = some ts ∧ ts.length < 64 ∧ ((∃ ns : List Int, ts = ns.map T.int ∧ ∀ ms : List Int, ms.Pairwise (· < ·) → (∀ k, k ∈ ms ↔ k ∈ ns) → Q (.lst (ms.map T.int)) M) ∨
  ∃ xs : List Str, ts = xs.map T.str ∧ ∀ ms : List Str, ms.Nodup → sortedS ms = true → (∀ k, k ∈ ms ↔ k ∈ xs) → Q (.lst (ms.map T.str)) M)
theorem qe_sortSet {a : Expr} {wa : WE} {p p2 q pos : Pos} (hc : X.calm = true) (ha : QE X a wa) (hg : Gl X "sorted" := by rfl) (hm : X.mg "sorted" = none := by rfl) (hg2 : Gl X "set" := by rfl) (hm2 : X.mg "set" = none := by rfl)
    (na : starEach [a] X.env = (false, eval a X.env) :: starEach [] X.env := by rfl) : QE X (.Call (.Name "sorted" p) [.Call (.Name "set" p2) [a] [] q] [] pos) (fun s M Q => wa s M fun t M1 => sortW t M1 Q) := by
  refine ⟨⟨fun pins s σ H Q I ⟨G, M, st, Qt, S, R, z, k⟩ => ?_⟩, fun s M Q Q' i z => ha.mono s M _ _ (fun t M1 ⟨ts, h1, h2, h3⟩ => ⟨ts, h1, h2, h3.imp (fun ⟨ns, e, f⟩ => ⟨ns, e, fun ms a b => i _ _ (f ms a b)⟩) fun ⟨ns, e, f⟩ => ⟨ns, e, fun ms a b c => i _ _ (f ms a b c)⟩⟩) z⟩
  refine Call_ (ld_blt I hg hm boot_sorted ?_)
  refine PyProof.Rows.callWith_builtin1 (PyProof.Rows.args_cons ?_ rfl) rfl rfl
  refine Call_ (ld_blt I hg2 hm2 boot_set ?_)
  refine PyProof.Rows.callWith_type1 (PyProof.Rows.args_cons (thn (ha.pe.run pins s σ H (fun v H1 => ∃ t M1 G1, sortW t M1 Qt ∧ Ext G M H G1 M1 H1 ∧ Rep G1 t v) I ⟨G, M, st, _, S, R, z, fun t M1 G1 H1 v q e r => ⟨t, M1, G1, q, e, r⟩⟩) fun v s1 ⟨x, H1, I1, r1, q1⟩ => PyProof.Rows.args_nil ?_) na) na rfl
  obtain ⟨t, M1, G1, ⟨ts, h1, h2, h3⟩, e, r⟩ := q1
  have hd := I1.ok.hd hc
  rcases h3 with ⟨ns, et, f⟩ | ⟨ns, et, f⟩
  · subst et
    rw [List.length_map] at h2
    refine set_made hc I1 e.st r r1 h1 (ks := ns.map Sum.inl) (.inl ⟨ns, rfl, rfl⟩) (by rw [List.length_map]; unfold scanBound; omega) fun a s2 I2 SM => PyProof.Rows.args_nil ?_
    refine sorted_setI SM hd h2 fun s' p out c ms old hg ho hp hat hi hlt hmem hl => ?_
    obtain ⟨hn, J⟩ := laid_list (ys := ms.map V.int) I2 old hg ho hp hat (vals_of_ints hi) (by rw [List.length_map, sizeLine_eq]; omega)
    have x := Ext.solid e.st (o := .lst (ms.map V.int)) hn
    refine ⟨.ref p, _, J, rfl, k _ _ _ _ _ (f ms hlt hmem) (e.trans x) ?_⟩
    unfold Rep
    exact ⟨p, _, rfl, upd_same, Reps.of_ints ms⟩
  · subst et
    rw [List.length_map] at h2
    refine set_made hc I1 e.st r r1 h1 (ks := ns.map Sum.inr) (.inr ⟨ns, rfl, rfl⟩) (by rw [List.length_map]; unfold scanBound; omega) fun a s2 I2 SM => PyProof.Rows.args_nil ?_
    refine sorted_setS SM hd h2 fun s' p out c ms old hg ho hp hat hi hnd hlt hmem hl => ?_
    obtain ⟨hn, J⟩ := laid_list (ys := ms.map V.str) I2 old hg ho hp hat (vals_of_strs hi) (by rw [List.length_map, sizeLine_eq]; omega)
    have x := Ext.solid e.st (o := .lst (ms.map V.str)) hn
    refine ⟨.ref p, _, J, rfl, k _ _ _ _ _ (f ms hnd hlt hmem) (e.trans x) ?_⟩
    unfold Rep
    exact ⟨p, _, rfl, upd_same, Reps.of_strs ms⟩
/-- len(set(x)) -/
def lenW (t : T) (M : Mh) (Q : TQ) : Prop := ∃ ts ks, seqO t = some ts ∧ ts.length < 1000 ∧ keysOf1 ts ks ∧ ∀ ms : List Key, ms.Nodup → (∀ k, k ∈ ms ↔ k ∈ ks) → Q (.int (ms.length : Nat)) M
theorem qe_lenSet {a : Expr} {wa : WE} {p p2 q pos : Pos} (hc : X.calm = true) (ha : QE X a wa) (hg : Gl X "len" := by rfl) (hm : X.mg "len" = none := by rfl) (hg2 : Gl X "set" := by rfl) (hm2 : X.mg "set" = none := by rfl)
    (na : starEach [a] X.env = (false, eval a X.env) :: starEach [] X.env := by rfl) : QE X (.Call (.Name "len" p) [.Call (.Name "set" p2) [a] [] q] [] pos) (fun s M Q => wa s M fun t M1 => lenW t M1 Q) := by
  refine ⟨⟨fun pins s σ H Q I ⟨G, M, st, Qt, S, R, z, k⟩ => ?_⟩, fun s M Q Q' i z => ha.mono s M _ _ (fun t M1 ⟨ts, ks, h1, h2, h3, f⟩ => ⟨ts, ks, h1, h2, h3, fun ms a b => i _ _ (f ms a b)⟩) z⟩
  refine Call_ (ld_blt I hg hm boot_len ?_)
  refine PyProof.Rows.callWith_builtin1 (PyProof.Rows.args_cons ?_ rfl) rfl rfl
  refine Call_ (ld_blt I hg2 hm2 boot_set ?_)
  refine PyProof.Rows.callWith_type1 (PyProof.Rows.args_cons (thn (ha.pe.run pins s σ H (fun v H1 => ∃ t M1 G1, lenW t M1 Qt ∧ Ext G M H G1 M1 H1 ∧ Rep G1 t v) I ⟨G, M, st, _, S, R, z, fun t M1 G1 H1 v q e r => ⟨t, M1, G1, q, e, r⟩⟩) fun v s1 ⟨x, H1, I1, r1, q1⟩ => PyProof.Rows.args_nil ?_) na) na rfl
  obtain ⟨t, M1, G1, ⟨ts, ks, h1, h2, h3, f⟩, e, r⟩ := q1
  have hl : ks.length = ts.length := by
    rcases h3 with ⟨ns, e1, e2⟩ | ⟨ns, e1, e2⟩ <;> (rw [e1, e2, List.length_map, List.length_map])
  refine set_made hc I1 e.st r r1 h1 h3 (by unfold scanBound; omega) fun a s2 I2 SM => PyProof.Rows.args_nil ?_
  obtain ⟨o, es, ep, t, ho, ⟨hex, hd⟩, ⟨g, nd, hmm⟩, hn, hf, hr, _⟩ := SM
  have el : (es.toList.map kE).length = es.size := by rw [List.length_map, Array.length_toList]
  refine call_len_set ho hex hd hf (by omega) ⟨.int es.size, H1, I2.tok _, ⟨_, rfl⟩, k (.int es.size) _ _ _ _ ?_ e rep_int⟩
  have z := f (es.toList.map kE) nd fun i => (hmm i).symm
  rw [el] at z
  exact z
end
end Tr

set_option Elab.async false
set_option linter.all false
set_option maxRecDepth 100000
set_option maxHeartbeats 4000000
namespace Tr
open PySem PySem.Spec L2
/-- what the head tells of the written part -/
structure Fx (K : PySem.W.Frag) (mg : Str → Option Value) : Prop where
  ok : obsK K = valK
  kin : ∃ h : Heap, K.In h ∧ h.Ns mainGlobals mg
section
variable {K : PySem.W.Frag} {mg : Str → Option Value}
theorem any_mem {α : Type} [DecidableEq α] {l : List α} {x : α} (h : (l.any fun y => decide (y = x)) = true) : x ∈ l := by
  obtain ⟨y, hy, e⟩ := List.any_eq_true.mp h
  rw [← of_decide_eq_true e]
  exact hy
theorem Fx.fact (c : Fx K mg) {f : He.Fa} (h : f ∈ faL) : f.ok K = true :=
  List.all_eq_true.mp (He.ba (show ((faL.all fun f => f.ok K) && fnL.all fun d => d.ok K) = true from congrArg (fun z : AlK => z.1) c.ok)).1 f h
theorem Fx.ex (c : Fx K mg) : exB K = true ∧ baseB K = true := He.ba (show (exB K && baseB K) = true from congrArg (fun z : AlK => z.2.1) c.ok)
theorem Fx.fn (c : Fx K mg) {d : He.DefD} (h : d ∈ fnL) : ∃ fd, FunD K d.name d.qual d.params d.body d.scope (d.dvs K) (d.kws K) (He.fAd K d.at_) fd := by
  have c2 := (He.ba (show ((faL.all fun f => f.ok K) && fnL.all fun d => d.ok K) = true from congrArg (fun z : AlK => z.1) c.ok)).2
  have e : fnL.map (fun d => He.fnW K d.at_) = fnL.map He.DefD.val := congrArg (fun z : AlK => z.2.2) c.ok
  obtain ⟨i, hi, ei⟩ := List.mem_iff_getElem.mp h
  have e2 : (fnL.map fun d => He.fnW K d.at_)[i]? = (fnL.map He.DefD.val)[i]? := by rw [e]
  rw [List.getElem?_map, List.getElem?_map, List.getElem?_eq_getElem hi, ei] at e2
  exact He.DefD.funD (Option.some.inj e2) (List.all_eq_true.mp c2 d h)
theorem Fx.glo (c : Fx K mg) (x : Str) (h : (gL.any fun y => decide (y = x)) = true) : mg x = some (.ref (He.ga K x)) := by
  obtain ⟨hp, X, G⟩ := c.kin
  exact He.glo_ok X G (c.fact (f := .glo x) (List.mem_append_left _ (List.mem_map.mpr ⟨x, any_mem h, rfl⟩)))
theorem Fx.free (c : Fx K mg) (x : Str) (h : (bL.any fun y => decide (y = x)) = true) : mg x = none := by
  obtain ⟨hp, X, G⟩ := c.kin
  exact He.free_ok X G (c.fact (f := .free x) (List.mem_append_right _ (List.mem_append_left _ (List.mem_map.mpr ⟨x, any_mem h, rfl⟩))))
theorem Fx.int (c : Fx K mg) (x : Str) (i : Int) (h : (iL.any fun y => decide (y = (x, i))) = true) : ∃ t, mg x = some (.int i t) := by
  obtain ⟨hp, X, G⟩ := c.kin
  exact He.int_ok X G (c.fact (f := .int x i) (List.mem_append_right _ (List.mem_append_right _ (List.mem_append_left _ (List.mem_map.mpr ⟨(x, i), any_mem h, rfl⟩)))))
theorem Fx.str (c : Fx K mg) (x z : Str) (h : (sL.any fun y => decide (y = (x, z))) = true) : ∃ t, mg x = some (.str z t) := by
  obtain ⟨hp, X, G⟩ := c.kin
  exact He.str_ok X G (c.fact (f := .str x z) (List.mem_append_right _ (List.mem_append_right _ (List.mem_append_right _ (List.mem_append_left _ (List.mem_map.mpr ⟨(x, z), any_mem h, rfl⟩))))))
theorem Fx.cls (c : Fx K mg) (x : Str) (h : (cL.any fun y => decide (y = x)) = true) : Cls K (He.ga K x) :=
  He.cls_ok (c.fact (f := .cls x) (List.mem_append_right _ (List.mem_append_right _ (List.mem_append_right _ (List.mem_append_right _ (List.mem_append_left _ (List.mem_map.mpr ⟨x, any_mem h, rfl⟩)))))))
theorem Fx.noat (c : Fx K mg) (x f : Str) (h : (nL.any fun y => decide (y = (x, f))) = true) : NoAttr K (He.ga K x) f :=
  He.noat_ok (c.fact (f := .noat x f) (List.mem_append_right _ (List.mem_append_right _ (List.mem_append_right _ (List.mem_append_right _ (List.mem_append_right _ (List.mem_append_left _ (List.mem_map.mpr ⟨(x, f), any_mem h, rfl⟩))))))))
theorem Fx.meth (c : Fx K mg) (x m : Str) (h : (mL.any fun y => decide (y = (x, m))) = true) : Meth K (He.ga K x) m (He.ma K (He.ga K x) m) :=
  He.meth_ok (c.fact (f := .meth x m) (List.mem_append_right _ (List.mem_append_right _ (List.mem_append_right _ (List.mem_append_right _ (List.mem_append_right _ (List.mem_append_right _ (List.mem_append_left _ (List.mem_map.mpr ⟨(x, m), any_mem h, rfl⟩)))))))))
theorem Fx.mkr (c : Fx K mg) (x : Str) (h : (kL.any fun y => decide (y = x)) = true) : Mk K (He.ga K x) (He.ma K (He.ga K x) "__init__") :=
  He.mkr_ok (c.fact (f := .mkr x) (List.mem_append_right _ (List.mem_append_right _ (List.mem_append_right _ (List.mem_append_right _ (List.mem_append_right _ (List.mem_append_right _ (List.mem_append_right _ (List.mem_map.mpr ⟨x, any_mem h, rfl⟩)))))))))
theorem Fx.ins (c : Fx K mg) (x : Str) (h : (cL.any fun y => decide (y = x)) = true) : InsTy K (He.ga K x) := by
  obtain ⟨h1, _⟩ := He.ba c.ex.1
  obtain ⟨a1, a⟩ := He.ba (List.all_eq_true.mp h1 x (any_mem h))
  obtain ⟨a2, a⟩ := He.ba a
  obtain ⟨a3, a4⟩ := He.ba a
  exact ⟨c.cls x h, He.eqO_ok a1, He.eqO_ok a2, of_decide_eq_true a3, of_decide_eq_true a4⟩
theorem Fx.kit (c : Fx K mg) (x y : Str) (h : (cardL.any fun z => decide (z = x)) = true) (h2 : (kindL.any fun z => decide (z = y)) = true) : PySem.W.kitOne K (.ref (He.ga K x)) (.ref (He.ga K y)) = some (decide (x = y) || decide (y = "Card")) := by
  obtain ⟨_, b⟩ := He.ba c.ex.1
  obtain ⟨b, _⟩ := He.ba b
  exact of_decide_eq_true (List.all_eq_true.mp (List.all_eq_true.mp b x (any_mem h)) y (any_mem h2))
theorem Fx.kit2 (c : Fx K mg) (x y : Str) (h : (pairL.any fun z => decide (z = (x, y))) = true) : PySem.W.kitOne K (.ref (He.ga K x)) (.ref (He.ga K y)) = some true := by
  obtain ⟨_, b⟩ := He.ba c.ex.1
  obtain ⟨_, b⟩ := He.ba b
  obtain ⟨b, _⟩ := He.ba b
  exact of_decide_eq_true (List.all_eq_true.mp b (x, y) (any_mem h))
theorem Fx.sam (c : Fx K mg) (x : Str) (h : (cardL.any fun z => decide (z = x)) = true) : He.ma K (He.ga K x) "inner" = He.ma K (He.ga K "Card") "inner" ∧ He.ma K (He.ga K x) "size" = He.ma K (He.ga K "Card") "size" := by
  obtain ⟨_, b⟩ := He.ba c.ex.1
  obtain ⟨_, b⟩ := He.ba b
  obtain ⟨_, b⟩ := He.ba b
  obtain ⟨a1, a2⟩ := He.ba (List.all_eq_true.mp b x (any_mem h))
  exact ⟨of_decide_eq_true a1, of_decide_eq_true a2⟩
theorem Fx.base (c : Fx K mg) : ClX.CRead K (He.ga K "Card") (.type "type") ∧ ClX.CVal K (He.ga K "Card") (.type "type") "__init__" (.ref (He.ma K (He.ga K "Card") "__init__")) (.ref (He.ma K (He.ga K "Card") "__init__")) ∧
    PySem.W.keepIn K (.ref (He.ma K (He.ga K "Card") "__init__")) = true := by
  obtain ⟨a1, a⟩ := He.ba c.ex.2
  obtain ⟨a2, a⟩ := He.ba a
  obtain ⟨a3, a4⟩ := He.ba a
  exact ⟨⟨a1, He.eqO_ok a2⟩, cfunB_ok a3, a4⟩
end
end Tr

set_option Elab.async false
set_option linter.all false
set_option maxRecDepth 100000
set_option maxHeartbeats 4000000
namespace Tr
open PySem PySem.Spec L2
open PyProof.Rows (envOfC)
/-- a def's promise over trees, wherever its object stands -/
structure Kp (P : Program) (w : World) (K : PySem.W.Frag) (mg : Str → Option Value) (base : Heap) (at_ : Str × Option Str) (k n : Nat) (F : TSpec) : Prop where
  ex : ∃ fd ps, FnOk P w K mg base CX0 k (He.fAd K at_) fd ps (spT n F) ∧ Binds K fd ps [] ∧ PySem.W.keepIn K (.ref (He.fAd K at_)) = true
section
variable {P : Program} {w : World} {K : PySem.W.Frag} {mg : Str → Option Value} {base : Heap} {at_ : Str × Option Str} {k n : Nat} {F : TSpec}
theorem Kp.mono {j : Nat} (h : Kp P w K mg base at_ j n F) (l : j ≤ k) : Kp P w K mg base at_ k n F :=
  let ⟨fd, ps, a, b, c⟩ := h.ex
  ⟨fd, ps, a.mono l, b, c⟩
/-- a def of the text keeps its promise -/
theorem kp_def {d : He.DefD} {N ps : List Str} (c : Fx K mg) (hd : d ∈ fnL) (S : FnScope N ps d.scope) (hn : ps.length = n)
    (hb : ∀ {fd : FuncData}, FunD K d.name d.qual d.params d.body d.scope (d.dvs K) (d.kws K) (He.fAd K d.at_) fd → Binds K fd ps [])
    (hbody : ∀ (cdv : Value) (A : Around) (outer : List Env) (s : Shared) (H : Hp) (E : XK), Room k (A.deeper (envOfC d.qual d.scope s.heap.objs.size (He.fAd K d.at_) cdv)) →
      ∃ w0, QSs (cxOf CX0 P w K mg base N d.qual d.scope (He.fAd K d.at_) cdv A outer s H E).nox d.body w0 ∧ ∀ ts M Q, ts.length = n → F ts M Q → w0 (endsF Q) (startT N ts) M) :
    Kp P w K mg base d.at_ (k + 1) n F := by
  obtain ⟨fd, FD⟩ := c.fn hd
  exact ⟨fd, ps, fnT FD S hn hbody, hb FD, FD.kp⟩
end
section
variable {X : Cx} {k n : Nat} {F : TSpec} {x : Str} {p pos apos : Pos} {e : Expr} {es : List Expr} {u : WA} {wo : WE}
abbrev KpX (X : Cx) : (Str × Option Str) → Nat → Nat → TSpec → Prop := Kp X.prog X.w X.K X.mg X.base
theorem qe_fn (h : KpX X (x, none) k n F) (hr : Room k X.A) (hm : X.mg x = some (.ref (He.ga X.K x))) (ha : QA X (e :: es) u) (hg : Gl X x := by rfl) (hdb : (x == ("__debug__" : Str)) = false := by decide)
    (he : starEach (e :: es) X.env = (false, eval e X.env) :: starEach es X.env := by rfl) (hpl : (backTo pos (starEach es X.env)).any (·.1) = false := by rfl) : QE X (.Call (.Name x p) (e :: es) [] pos) (wFn n F u) := by
  obtain ⟨fd, ps, a, b, c⟩ := h.ex
  exact qe_call a hr hm c b ha hg hdb he hpl
theorem qe_new (Mx : Mk X.K (He.ga X.K x) (He.ma X.K (He.ga X.K x) "__init__")) (h : KpX X (x, some "__init__") k n F) (hr : Room (k + 1) X.A) (hm : X.mg x = some (.ref (He.ga X.K x))) (ha : QA X (e :: es) u) (hg : Gl X x := by rfl) (hdb : (x == ("__debug__" : Str)) = false := by decide)
    (he : starEach (e :: es) X.env = (false, eval e X.env) :: starEach es X.env := by rfl) (hpl : (backTo pos (starEach es X.env)).any (·.1) = false := by rfl) : QE X (.Call (.Name x p) (e :: es) [] pos) (wMake (He.ga X.K x) n F u) := by
  obtain ⟨fd, ps, a, b, c⟩ := h.ex
  exact qe_make Mx a hr hm b ha hg hdb he hpl
theorem qe_new0 (Mx : Mk X.K (He.ga X.K x) (He.ma X.K (He.ga X.K x) "__init__")) (h : KpX X (x, some "__init__") k n F) (hr : Room (k + 1) X.A) (hm : X.mg x = some (.ref (He.ga X.K x))) (hg : Gl X x := by rfl) (hdb : (x == ("__debug__" : Str)) = false := by decide) :
    QE X (.Call (.Name x p) [] [] pos) (wMake (He.ga X.K x) n F wNil) := by
  obtain ⟨fd, ps, a, b, c⟩ := h.ex
  exact qe_make0 Mx a hr hm b hg hdb
theorem methOk {C m : Str} (c : Cls X.K (He.ga X.K C)) (hm : Meth X.K (He.ga X.K C) m (He.ma X.K (He.ga X.K C) m)) (h : KpX X (C, some m) k n F) (hr : Room k X.A) : MethOk X (He.ga X.K C) m n F := by
  obtain ⟨fd, ps, a, b, _⟩ := h.ex
  exact ⟨_, fd, ps, k, c, hm, a, hr, b⟩
/-- a method that the class at C has from the class B -/
theorem methOkB {C B m : Str} (c : Cls X.K (He.ga X.K C)) (hm : Meth X.K (He.ga X.K C) m (He.ma X.K (He.ga X.K C) m)) (e : He.ma X.K (He.ga X.K C) m = He.ma X.K (He.ga X.K B) m) (h : KpX X (B, some m) k n F) (hr : Room k X.A) : MethOk X (He.ga X.K C) m n F := by
  obtain ⟨fd, ps, a, b, _⟩ := h.ex
  rw [e] at hm
  exact ⟨_, fd, ps, k, c, hm, a, hr, b⟩
theorem Room.u1 (h : Room k X.A) : X.A.units + 1 < cLine := by have := h.un; omega
end
/-! ### the facts, each by its name -/
section
variable {K : PySem.W.Frag} {mg : Str → Option Value}

theorem Fx.g_is_whole (c : Fx K mg) : mg "is_whole" = some (.ref (He.ga K "is_whole")) := c.glo "is_whole" (by decide +kernel)
theorem Fx.g_is_moment (c : Fx K mg) : mg "is_moment" = some (.ref (He.ga K "is_moment")) := c.glo "is_moment" (by decide +kernel)
theorem Fx.g_want_moment (c : Fx K mg) : mg "want_moment" = some (.ref (He.ga K "want_moment")) := c.glo "want_moment" (by decide +kernel)
theorem Fx.g_want_day (c : Fx K mg) : mg "want_day" = some (.ref (He.ga K "want_day")) := c.glo "want_day" (by decide +kernel)
theorem Fx.g_are_signs (c : Fx K mg) : mg "are_signs" = some (.ref (He.ga K "are_signs")) := c.glo "are_signs" (by decide +kernel)
theorem Fx.g_told_days (c : Fx K mg) : mg "told_days" = some (.ref (He.ga K "told_days")) := c.glo "told_days" (by decide +kernel)
theorem Fx.g_want_till (c : Fx K mg) : mg "want_till" = some (.ref (He.ga K "want_till")) := c.glo "want_till" (by decide +kernel)
theorem Fx.g_is_name (c : Fx K mg) : mg "is_name" = some (.ref (He.ga K "is_name")) := c.glo "is_name" (by decide +kernel)
theorem Fx.g_notes_of (c : Fx K mg) : mg "notes_of" = some (.ref (He.ga K "notes_of")) := c.glo "notes_of" (by decide +kernel)
theorem Fx.g_notes_together (c : Fx K mg) : mg "notes_together" = some (.ref (He.ga K "notes_together")) := c.glo "notes_together" (by decide +kernel)
theorem Fx.g_is_number (c : Fx K mg) : mg "is_number" = some (.ref (He.ga K "is_number")) := c.glo "is_number" (by decide +kernel)
theorem Fx.g_all_rising (c : Fx K mg) : mg "all_rising" = some (.ref (He.ga K "all_rising")) := c.glo "all_rising" (by decide +kernel)
theorem Fx.g_shorts_in (c : Fx K mg) : mg "shorts_in" = some (.ref (He.ga K "shorts_in")) := c.glo "shorts_in" (by decide +kernel)
theorem Fx.g_row_moments (c : Fx K mg) : mg "row_moments" = some (.ref (He.ga K "row_moments")) := c.glo "row_moments" (by decide +kernel)
theorem Fx.g_row_many (c : Fx K mg) : mg "row_many" = some (.ref (He.ga K "row_many")) := c.glo "row_many" (by decide +kernel)
theorem Fx.g_want (c : Fx K mg) : mg "want" = some (.ref (He.ga K "want")) := c.glo "want" (by decide +kernel)
theorem Fx.g_first_as (c : Fx K mg) : mg "first_as" = some (.ref (He.ga K "first_as")) := c.glo "first_as" (by decide +kernel)
theorem Fx.g_want_card (c : Fx K mg) : mg "want_card" = some (.ref (He.ga K "want_card")) := c.glo "want_card" (by decide +kernel)
theorem Fx.g_want_known (c : Fx K mg) : mg "want_known" = some (.ref (He.ga K "want_known")) := c.glo "want_known" (by decide +kernel)
theorem Fx.g_going_at (c : Fx K mg) : mg "going_at" = some (.ref (He.ga K "going_at")) := c.glo "going_at" (by decide +kernel)
theorem Fx.g_changed_card (c : Fx K mg) : mg "changed_card" = some (.ref (He.ga K "changed_card")) := c.glo "changed_card" (by decide +kernel)
theorem Fx.g_names_in (c : Fx K mg) : mg "names_in" = some (.ref (He.ga K "names_in")) := c.glo "names_in" (by decide +kernel)
theorem Fx.g_chain_round (c : Fx K mg) : mg "chain_round" = some (.ref (He.ga K "chain_round")) := c.glo "chain_round" (by decide +kernel)
theorem Fx.g_count_card (c : Fx K mg) : mg "count_card" = some (.ref (He.ga K "count_card")) := c.glo "count_card" (by decide +kernel)
theorem Fx.g_most_meant (c : Fx K mg) : mg "most_meant" = some (.ref (He.ga K "most_meant")) := c.glo "most_meant" (by decide +kernel)
theorem Fx.g_with_inner (c : Fx K mg) : mg "with_inner" = some (.ref (He.ga K "with_inner")) := c.glo "with_inner" (by decide +kernel)
theorem Fx.g_meaning (c : Fx K mg) : mg "meaning" = some (.ref (He.ga K "meaning")) := c.glo "meaning" (by decide +kernel)
theorem Fx.g_all_meanings (c : Fx K mg) : mg "all_meanings" = some (.ref (He.ga K "all_meanings")) := c.glo "all_meanings" (by decide +kernel)
theorem Fx.g_law_pot (c : Fx K mg) : mg "_law_pot" = some (.ref (He.ga K "_law_pot")) := c.glo "_law_pot" (by decide +kernel)
theorem Fx.g_law_take (c : Fx K mg) : mg "_law_take" = some (.ref (He.ga K "_law_take")) := c.glo "_law_take" (by decide +kernel)
theorem Fx.g_law_word (c : Fx K mg) : mg "_law_word" = some (.ref (He.ga K "_law_word")) := c.glo "_law_word" (by decide +kernel)
theorem Fx.g_law_pool (c : Fx K mg) : mg "_law_pool" = some (.ref (He.ga K "_law_pool")) := c.glo "_law_pool" (by decide +kernel)
theorem Fx.g_law_lot (c : Fx K mg) : mg "_law_lot" = some (.ref (He.ga K "_law_lot")) := c.glo "_law_lot" (by decide +kernel)
theorem Fx.g_law_minute (c : Fx K mg) : mg "_law_minute" = some (.ref (He.ga K "_law_minute")) := c.glo "_law_minute" (by decide +kernel)
theorem Fx.g_law_days (c : Fx K mg) : mg "_law_days" = some (.ref (He.ga K "_law_days")) := c.glo "_law_days" (by decide +kernel)
theorem Fx.g_law_leaf (c : Fx K mg) : mg "_law_leaf" = some (.ref (He.ga K "_law_leaf")) := c.glo "_law_leaf" (by decide +kernel)
theorem Fx.g_law_card (c : Fx K mg) : mg "_law_card" = some (.ref (He.ga K "_law_card")) := c.glo "_law_card" (by decide +kernel)
theorem Fx.g_law_inner (c : Fx K mg) : mg "_law_inner" = some (.ref (He.ga K "_law_inner")) := c.glo "_law_inner" (by decide +kernel)
theorem Fx.g_law_on (c : Fx K mg) : mg "_law_on" = some (.ref (He.ga K "_law_on")) := c.glo "_law_on" (by decide +kernel)
theorem Fx.g_law_made (c : Fx K mg) : mg "_law_made" = some (.ref (He.ga K "_law_made")) := c.glo "_law_made" (by decide +kernel)
theorem Fx.g_law_names_in (c : Fx K mg) : mg "_law_names_in" = some (.ref (He.ga K "_law_names_in")) := c.glo "_law_names_in" (by decide +kernel)
theorem Fx.g_law_size (c : Fx K mg) : mg "_law_size" = some (.ref (He.ga K "_law_size")) := c.glo "_law_size" (by decide +kernel)
theorem Fx.g_law_has (c : Fx K mg) : mg "_law_has" = some (.ref (He.ga K "_law_has")) := c.glo "_law_has" (by decide +kernel)
theorem Fx.g_law_joined (c : Fx K mg) : mg "_law_joined" = some (.ref (He.ga K "_law_joined")) := c.glo "_law_joined" (by decide +kernel)
theorem Fx.g_law_notes (c : Fx K mg) : mg "_law_notes" = some (.ref (He.ga K "_law_notes")) := c.glo "_law_notes" (by decide +kernel)
theorem Fx.g_law_goes (c : Fx K mg) : mg "_law_goes" = some (.ref (He.ga K "_law_goes")) := c.glo "_law_goes" (by decide +kernel)
theorem Fx.g_law_below (c : Fx K mg) : mg "_law_below" = some (.ref (He.ga K "_law_below")) := c.glo "_law_below" (by decide +kernel)
theorem Fx.g_law_free (c : Fx K mg) : mg "_law_free" = some (.ref (He.ga K "_law_free")) := c.glo "_law_free" (by decide +kernel)
theorem Fx.g_law_new_card (c : Fx K mg) : mg "_law_new_card" = some (.ref (He.ga K "_law_new_card")) := c.glo "_law_new_card" (by decide +kernel)
theorem Fx.g_law_has_as (c : Fx K mg) : mg "_law_has_as" = some (.ref (He.ga K "_law_has_as")) := c.glo "_law_has_as" (by decide +kernel)
theorem Fx.g_law_at (c : Fx K mg) : mg "_law_at" = some (.ref (He.ga K "_law_at")) := c.glo "_law_at" (by decide +kernel)
theorem Fx.g_law_line_right (c : Fx K mg) : mg "_law_line_right" = some (.ref (He.ga K "_law_line_right")) := c.glo "_law_line_right" (by decide +kernel)
theorem Fx.g_law_spots (c : Fx K mg) : mg "_law_spots" = some (.ref (He.ga K "_law_spots")) := c.glo "_law_spots" (by decide +kernel)
theorem Fx.g_law (c : Fx K mg) : mg "law" = some (.ref (He.ga K "law")) := c.glo "law" (by decide +kernel)
theorem Fx.g_Ring (c : Fx K mg) : mg "Ring" = some (.ref (He.ga K "Ring")) := c.glo "Ring" (by decide +kernel)
theorem Fx.g_Days (c : Fx K mg) : mg "Days" = some (.ref (He.ga K "Days")) := c.glo "Days" (by decide +kernel)
theorem Fx.g_Going (c : Fx K mg) : mg "Going" = some (.ref (He.ga K "Going")) := c.glo "Going" (by decide +kernel)
theorem Fx.g_Short (c : Fx K mg) : mg "Short" = some (.ref (He.ga K "Short")) := c.glo "Short" (by decide +kernel)
theorem Fx.g_At (c : Fx K mg) : mg "At" = some (.ref (He.ga K "At")) := c.glo "At" (by decide +kernel)
theorem Fx.g_Spread (c : Fx K mg) : mg "Spread" = some (.ref (He.ga K "Spread")) := c.glo "Spread" (by decide +kernel)
theorem Fx.g_Card (c : Fx K mg) : mg "Card" = some (.ref (He.ga K "Card")) := c.glo "Card" (by decide +kernel)
theorem Fx.g_Once (c : Fx K mg) : mg "Once" = some (.ref (He.ga K "Once")) := c.glo "Once" (by decide +kernel)
theorem Fx.g_Every (c : Fx K mg) : mg "Every" = some (.ref (He.ga K "Every")) := c.glo "Every" (by decide +kernel)
theorem Fx.g_Join (c : Fx K mg) : mg "Join" = some (.ref (He.ga K "Join")) := c.glo "Join" (by decide +kernel)
theorem Fx.g_Less (c : Fx K mg) : mg "Less" = some (.ref (He.ga K "Less")) := c.glo "Less" (by decide +kernel)
theorem Fx.g_Swap (c : Fx K mg) : mg "Swap" = some (.ref (He.ga K "Swap")) := c.glo "Swap" (by decide +kernel)
theorem Fx.g_Later (c : Fx K mg) : mg "Later" = some (.ref (He.ga K "Later")) := c.glo "Later" (by decide +kernel)
theorem Fx.g_Noted (c : Fx K mg) : mg "Noted" = some (.ref (He.ga K "Noted")) := c.glo "Noted" (by decide +kernel)
theorem Fx.g_As (c : Fx K mg) : mg "As" = some (.ref (He.ga K "As")) := c.glo "As" (by decide +kernel)
theorem Fx.g_Book (c : Fx K mg) : mg "Book" = some (.ref (He.ga K "Book")) := c.glo "Book" (by decide +kernel)
theorem Fx.b_isinstance (c : Fx K mg) : mg "isinstance" = none := c.free "isinstance" (by decide +kernel)
theorem Fx.b_all (c : Fx K mg) : mg "all" = none := c.free "all" (by decide +kernel)
theorem Fx.b_any (c : Fx K mg) : mg "any" = none := c.free "any" (by decide +kernel)
theorem Fx.b_len (c : Fx K mg) : mg "len" = none := c.free "len" (by decide +kernel)
theorem Fx.b_range (c : Fx K mg) : mg "range" = none := c.free "range" (by decide +kernel)
theorem Fx.b_tuple (c : Fx K mg) : mg "tuple" = none := c.free "tuple" (by decide +kernel)
theorem Fx.b_list (c : Fx K mg) : mg "list" = none := c.free "list" (by decide +kernel)
theorem Fx.b_dict (c : Fx K mg) : mg "dict" = none := c.free "dict" (by decide +kernel)
theorem Fx.b_sorted (c : Fx K mg) : mg "sorted" = none := c.free "sorted" (by decide +kernel)
theorem Fx.b_set (c : Fx K mg) : mg "set" = none := c.free "set" (by decide +kernel)
theorem Fx.b_zip (c : Fx K mg) : mg "zip" = none := c.free "zip" (by decide +kernel)
theorem Fx.b_sum (c : Fx K mg) : mg "sum" = none := c.free "sum" (by decide +kernel)
theorem Fx.b_max (c : Fx K mg) : mg "max" = none := c.free "max" (by decide +kernel)
theorem Fx.b_min (c : Fx K mg) : mg "min" = none := c.free "min" (by decide +kernel)
theorem Fx.b_int (c : Fx K mg) : mg "int" = none := c.free "int" (by decide +kernel)
theorem Fx.b_str (c : Fx K mg) : mg "str" = none := c.free "str" (by decide +kernel)
theorem Fx.b_bool (c : Fx K mg) : mg "bool" = none := c.free "bool" (by decide +kernel)
theorem Fx.b_divmod (c : Fx K mg) : mg "divmod" = none := c.free "divmod" (by decide +kernel)
theorem Fx.b_repr (c : Fx K mg) : mg "repr" = none := c.free "repr" (by decide +kernel)
theorem Fx.i_HOUR (c : Fx K mg) : ∃ t, mg "HOUR" = some (.int 60 t) := c.int "HOUR" 60 (by decide +kernel)
theorem Fx.i_DAY (c : Fx K mg) : ∃ t, mg "DAY" = some (.int 1440 t) := c.int "DAY" 1440 (by decide +kernel)
theorem Fx.i_MOST_SIGNS (c : Fx K mg) : ∃ t, mg "MOST_SIGNS" = some (.int 7 t) := c.int "MOST_SIGNS" 7 (by decide +kernel)
theorem Fx.i_MOST_DAYS (c : Fx K mg) : ∃ t, mg "MOST_DAYS" = some (.int 8 t) := c.int "MOST_DAYS" 8 (by decide +kernel)
theorem Fx.i_LONGEST_NAME (c : Fx K mg) : ∃ t, mg "LONGEST_NAME" = some (.int 8 t) := c.int "LONGEST_NAME" 8 (by decide +kernel)
theorem Fx.i_MOST_MOMENTS (c : Fx K mg) : ∃ t, mg "MOST_MOMENTS" = some (.int 1440 t) := c.int "MOST_MOMENTS" 1440 (by decide +kernel)
theorem Fx.i_MOST_CARDS (c : Fx K mg) : ∃ t, mg "MOST_CARDS" = some (.int 60 t) := c.int "MOST_CARDS" 60 (by decide +kernel)
theorem Fx.i_LATEST (c : Fx K mg) : ∃ t, mg "LATEST" = some (.int 10080 t) := c.int "LATEST" 10080 (by decide +kernel)
theorem Fx.i_MOST_MEANT (c : Fx K mg) : ∃ t, mg "MOST_MEANT" = some (.int 30 t) := c.int "MOST_MEANT" 30 (by decide +kernel)
theorem Fx.s_NOUGHT (c : Fx K mg) : ∃ t, mg "NOUGHT" = some (.str "0" t) := c.str "NOUGHT" "0" (by decide +kernel)
theorem Fx.s_ONE (c : Fx K mg) : ∃ t, mg "ONE" = some (.str "1" t) := c.str "ONE" "1" (by decide +kernel)
theorem Fx.s_NAME_SIGNS (c : Fx K mg) : ∃ t, mg "NAME_SIGNS" = some (.str "abcdefghijklmnopqrstuvwxyz" t) := c.str "NAME_SIGNS" "abcdefghijklmnopqrstuvwxyz" (by decide +kernel)
theorem Fx.c_Ring (c : Fx K mg) : Cls K (He.ga K "Ring") := c.cls "Ring" (by decide +kernel)
theorem Fx.y_Ring (c : Fx K mg) : InsTy K (He.ga K "Ring") := c.ins "Ring" (by decide +kernel)
theorem Fx.c_Days (c : Fx K mg) : Cls K (He.ga K "Days") := c.cls "Days" (by decide +kernel)
theorem Fx.y_Days (c : Fx K mg) : InsTy K (He.ga K "Days") := c.ins "Days" (by decide +kernel)
theorem Fx.c_Going (c : Fx K mg) : Cls K (He.ga K "Going") := c.cls "Going" (by decide +kernel)
theorem Fx.y_Going (c : Fx K mg) : InsTy K (He.ga K "Going") := c.ins "Going" (by decide +kernel)
theorem Fx.c_At (c : Fx K mg) : Cls K (He.ga K "At") := c.cls "At" (by decide +kernel)
theorem Fx.y_At (c : Fx K mg) : InsTy K (He.ga K "At") := c.ins "At" (by decide +kernel)
theorem Fx.c_Spread (c : Fx K mg) : Cls K (He.ga K "Spread") := c.cls "Spread" (by decide +kernel)
theorem Fx.y_Spread (c : Fx K mg) : InsTy K (He.ga K "Spread") := c.ins "Spread" (by decide +kernel)
theorem Fx.c_Book (c : Fx K mg) : Cls K (He.ga K "Book") := c.cls "Book" (by decide +kernel)
theorem Fx.y_Book (c : Fx K mg) : InsTy K (He.ga K "Book") := c.ins "Book" (by decide +kernel)
theorem Fx.c_Once (c : Fx K mg) : Cls K (He.ga K "Once") := c.cls "Once" (by decide +kernel)
theorem Fx.y_Once (c : Fx K mg) : InsTy K (He.ga K "Once") := c.ins "Once" (by decide +kernel)
theorem Fx.c_Every (c : Fx K mg) : Cls K (He.ga K "Every") := c.cls "Every" (by decide +kernel)
theorem Fx.y_Every (c : Fx K mg) : InsTy K (He.ga K "Every") := c.ins "Every" (by decide +kernel)
theorem Fx.c_Join (c : Fx K mg) : Cls K (He.ga K "Join") := c.cls "Join" (by decide +kernel)
theorem Fx.y_Join (c : Fx K mg) : InsTy K (He.ga K "Join") := c.ins "Join" (by decide +kernel)
theorem Fx.c_Less (c : Fx K mg) : Cls K (He.ga K "Less") := c.cls "Less" (by decide +kernel)
theorem Fx.y_Less (c : Fx K mg) : InsTy K (He.ga K "Less") := c.ins "Less" (by decide +kernel)
theorem Fx.c_Swap (c : Fx K mg) : Cls K (He.ga K "Swap") := c.cls "Swap" (by decide +kernel)
theorem Fx.y_Swap (c : Fx K mg) : InsTy K (He.ga K "Swap") := c.ins "Swap" (by decide +kernel)
theorem Fx.c_Later (c : Fx K mg) : Cls K (He.ga K "Later") := c.cls "Later" (by decide +kernel)
theorem Fx.y_Later (c : Fx K mg) : InsTy K (He.ga K "Later") := c.ins "Later" (by decide +kernel)
theorem Fx.c_Noted (c : Fx K mg) : Cls K (He.ga K "Noted") := c.cls "Noted" (by decide +kernel)
theorem Fx.y_Noted (c : Fx K mg) : InsTy K (He.ga K "Noted") := c.ins "Noted" (by decide +kernel)
theorem Fx.c_As (c : Fx K mg) : Cls K (He.ga K "As") := c.cls "As" (by decide +kernel)
theorem Fx.y_As (c : Fx K mg) : InsTy K (He.ga K "As") := c.ins "As" (by decide +kernel)
theorem Fx.n_Ring_bits (c : Fx K mg) : NoAttr K (He.ga K "Ring") "bits" := c.noat "Ring" "bits" (by decide +kernel)
theorem Fx.n_Days_ring (c : Fx K mg) : NoAttr K (He.ga K "Days") "ring" := c.noat "Days" "ring" (by decide +kernel)
theorem Fx.n_Days_since (c : Fx K mg) : NoAttr K (He.ga K "Days") "since" := c.noat "Days" "since" (by decide +kernel)
theorem Fx.n_Days_till (c : Fx K mg) : NoAttr K (He.ga K "Days") "till" := c.noat "Days" "till" (by decide +kernel)
theorem Fx.n_Days_out (c : Fx K mg) : NoAttr K (He.ga K "Days") "out" := c.noat "Days" "out" (by decide +kernel)
theorem Fx.n_Days_also (c : Fx K mg) : NoAttr K (He.ga K "Days") "also" := c.noat "Days" "also" (by decide +kernel)
theorem Fx.n_Going_moment (c : Fx K mg) : NoAttr K (He.ga K "Going") "moment" := c.noat "Going" "moment" (by decide +kernel)
theorem Fx.n_Going_notes (c : Fx K mg) : NoAttr K (He.ga K "Going") "notes" := c.noat "Going" "notes" (by decide +kernel)
theorem Fx.n_At_moment (c : Fx K mg) : NoAttr K (He.ga K "At") "moment" := c.noat "At" "moment" (by decide +kernel)
theorem Fx.n_Spread_kept (c : Fx K mg) : NoAttr K (He.ga K "Spread") "kept" := c.noat "Spread" "kept" (by decide +kernel)
theorem Fx.n_Spread_held (c : Fx K mg) : NoAttr K (He.ga K "Spread") "held" := c.noat "Spread" "held" (by decide +kernel)
theorem Fx.n_Book_lines (c : Fx K mg) : NoAttr K (He.ga K "Book") "lines" := c.noat "Book" "lines" (by decide +kernel)
theorem Fx.n_Book_meanings (c : Fx K mg) : NoAttr K (He.ga K "Book") "meanings" := c.noat "Book" "meanings" (by decide +kernel)
theorem Fx.n_Book_changed (c : Fx K mg) : NoAttr K (He.ga K "Book") "changed" := c.noat "Book" "changed" (by decide +kernel)
theorem Fx.n_Once_spread (c : Fx K mg) : NoAttr K (He.ga K "Once") "spread" := c.noat "Once" "spread" (by decide +kernel)
theorem Fx.n_Once_notes (c : Fx K mg) : NoAttr K (He.ga K "Once") "notes" := c.noat "Once" "notes" (by decide +kernel)
theorem Fx.n_Once_own (c : Fx K mg) : NoAttr K (He.ga K "Once") "own" := c.noat "Once" "own" (by decide +kernel)
theorem Fx.n_Once_held (c : Fx K mg) : NoAttr K (He.ga K "Once") "held" := c.noat "Once" "held" (by decide +kernel)
theorem Fx.n_Once_weight (c : Fx K mg) : NoAttr K (He.ga K "Once") "weight" := c.noat "Once" "weight" (by decide +kernel)
theorem Fx.n_Every_days (c : Fx K mg) : NoAttr K (He.ga K "Every") "days" := c.noat "Every" "days" (by decide +kernel)
theorem Fx.n_Every_spread (c : Fx K mg) : NoAttr K (He.ga K "Every") "spread" := c.noat "Every" "spread" (by decide +kernel)
theorem Fx.n_Every_notes (c : Fx K mg) : NoAttr K (He.ga K "Every") "notes" := c.noat "Every" "notes" (by decide +kernel)
theorem Fx.n_Every_own (c : Fx K mg) : NoAttr K (He.ga K "Every") "own" := c.noat "Every" "own" (by decide +kernel)
theorem Fx.n_Every_held (c : Fx K mg) : NoAttr K (He.ga K "Every") "held" := c.noat "Every" "held" (by decide +kernel)
theorem Fx.n_Every_weight (c : Fx K mg) : NoAttr K (He.ga K "Every") "weight" := c.noat "Every" "weight" (by decide +kernel)
theorem Fx.n_Join_held (c : Fx K mg) : NoAttr K (He.ga K "Join") "held" := c.noat "Join" "held" (by decide +kernel)
theorem Fx.n_Join_weight (c : Fx K mg) : NoAttr K (He.ga K "Join") "weight" := c.noat "Join" "weight" (by decide +kernel)
theorem Fx.n_Less_held (c : Fx K mg) : NoAttr K (He.ga K "Less") "held" := c.noat "Less" "held" (by decide +kernel)
theorem Fx.n_Less_weight (c : Fx K mg) : NoAttr K (He.ga K "Less") "weight" := c.noat "Less" "weight" (by decide +kernel)
theorem Fx.n_Swap_days (c : Fx K mg) : NoAttr K (He.ga K "Swap") "days" := c.noat "Swap" "days" (by decide +kernel)
theorem Fx.n_Swap_held (c : Fx K mg) : NoAttr K (He.ga K "Swap") "held" := c.noat "Swap" "held" (by decide +kernel)
theorem Fx.n_Swap_weight (c : Fx K mg) : NoAttr K (He.ga K "Swap") "weight" := c.noat "Swap" "weight" (by decide +kernel)
theorem Fx.n_Later_minutes (c : Fx K mg) : NoAttr K (He.ga K "Later") "minutes" := c.noat "Later" "minutes" (by decide +kernel)
theorem Fx.n_Later_held (c : Fx K mg) : NoAttr K (He.ga K "Later") "held" := c.noat "Later" "held" (by decide +kernel)
theorem Fx.n_Later_weight (c : Fx K mg) : NoAttr K (He.ga K "Later") "weight" := c.noat "Later" "weight" (by decide +kernel)
theorem Fx.n_Noted_note (c : Fx K mg) : NoAttr K (He.ga K "Noted") "note" := c.noat "Noted" "note" (by decide +kernel)
theorem Fx.n_Noted_held (c : Fx K mg) : NoAttr K (He.ga K "Noted") "held" := c.noat "Noted" "held" (by decide +kernel)
theorem Fx.n_Noted_weight (c : Fx K mg) : NoAttr K (He.ga K "Noted") "weight" := c.noat "Noted" "weight" (by decide +kernel)
theorem Fx.n_As_name (c : Fx K mg) : NoAttr K (He.ga K "As") "name" := c.noat "As" "name" (by decide +kernel)
theorem Fx.n_As_held (c : Fx K mg) : NoAttr K (He.ga K "As") "held" := c.noat "As" "held" (by decide +kernel)
theorem Fx.n_As_weight (c : Fx K mg) : NoAttr K (He.ga K "As") "weight" := c.noat "As" "weight" (by decide +kernel)
theorem Fx.m_Ring_rings (c : Fx K mg) : Meth K (He.ga K "Ring") "rings" (He.ma K (He.ga K "Ring") "rings") := c.meth "Ring" "rings" (by decide +kernel)
theorem Fx.m_Days_has (c : Fx K mg) : Meth K (He.ga K "Days") "has" (He.ma K (He.ga K "Days") "has") := c.meth "Days" "has" (by decide +kernel)
theorem Fx.m_At_moments (c : Fx K mg) : Meth K (He.ga K "At") "moments" (He.ma K (He.ga K "At") "moments") := c.meth "At" "moments" (by decide +kernel)
theorem Fx.m_At_begins (c : Fx K mg) : Meth K (He.ga K "At") "begins" (He.ma K (He.ga K "At") "begins") := c.meth "At" "begins" (by decide +kernel)
theorem Fx.m_At_ends (c : Fx K mg) : Meth K (He.ga K "At") "ends" (He.ma K (He.ga K "At") "ends") := c.meth "At" "ends" (by decide +kernel)
theorem Fx.m_At_means_many (c : Fx K mg) : Meth K (He.ga K "At") "means_many" (He.ma K (He.ga K "At") "means_many") := c.meth "At" "means_many" (by decide +kernel)
theorem Fx.m_Spread_moments (c : Fx K mg) : Meth K (He.ga K "Spread") "moments" (He.ma K (He.ga K "Spread") "moments") := c.meth "Spread" "moments" (by decide +kernel)
theorem Fx.m_Book_names (c : Fx K mg) : Meth K (He.ga K "Book") "names" (He.ma K (He.ga K "Book") "names") := c.meth "Book" "names" (by decide +kernel)
theorem Fx.m_Book_want_line (c : Fx K mg) : Meth K (He.ga K "Book") "want_line" (He.ma K (He.ga K "Book") "want_line") := c.meth "Book" "want_line" (by decide +kernel)
theorem Fx.m_Book_put (c : Fx K mg) : Meth K (He.ga K "Book") "put" (He.ma K (He.ga K "Book") "put") := c.meth "Book" "put" (by decide +kernel)
theorem Fx.m_Book_take_out (c : Fx K mg) : Meth K (He.ga K "Book") "take_out" (He.ma K (He.ga K "Book") "take_out") := c.meth "Book" "take_out" (by decide +kernel)
theorem Fx.m_Book_meant (c : Fx K mg) : Meth K (He.ga K "Book") "meant" (He.ma K (He.ga K "Book") "meant") := c.meth "Book" "meant" (by decide +kernel)
theorem Fx.m_Book_now (c : Fx K mg) : Meth K (He.ga K "Book") "now" (He.ma K (He.ga K "Book") "now") := c.meth "Book" "now" (by decide +kernel)
theorem Fx.m_Once_inner (c : Fx K mg) : Meth K (He.ga K "Once") "inner" (He.ma K (He.ga K "Once") "inner") := c.meth "Once" "inner" (by decide +kernel)
theorem Fx.m_Once_size (c : Fx K mg) : Meth K (He.ga K "Once") "size" (He.ma K (He.ga K "Once") "size") := c.meth "Once" "size" (by decide +kernel)
theorem Fx.m_Once_notes_at (c : Fx K mg) : Meth K (He.ga K "Once") "notes_at" (He.ma K (He.ga K "Once") "notes_at") := c.meth "Once" "notes_at" (by decide +kernel)
theorem Fx.m_Every_inner (c : Fx K mg) : Meth K (He.ga K "Every") "inner" (He.ma K (He.ga K "Every") "inner") := c.meth "Every" "inner" (by decide +kernel)
theorem Fx.m_Every_size (c : Fx K mg) : Meth K (He.ga K "Every") "size" (He.ma K (He.ga K "Every") "size") := c.meth "Every" "size" (by decide +kernel)
theorem Fx.m_Every_notes_at (c : Fx K mg) : Meth K (He.ga K "Every") "notes_at" (He.ma K (He.ga K "Every") "notes_at") := c.meth "Every" "notes_at" (by decide +kernel)
theorem Fx.m_Join_inner (c : Fx K mg) : Meth K (He.ga K "Join") "inner" (He.ma K (He.ga K "Join") "inner") := c.meth "Join" "inner" (by decide +kernel)
theorem Fx.m_Join_size (c : Fx K mg) : Meth K (He.ga K "Join") "size" (He.ma K (He.ga K "Join") "size") := c.meth "Join" "size" (by decide +kernel)
theorem Fx.m_Join_notes_at (c : Fx K mg) : Meth K (He.ga K "Join") "notes_at" (He.ma K (He.ga K "Join") "notes_at") := c.meth "Join" "notes_at" (by decide +kernel)
theorem Fx.m_Less_inner (c : Fx K mg) : Meth K (He.ga K "Less") "inner" (He.ma K (He.ga K "Less") "inner") := c.meth "Less" "inner" (by decide +kernel)
theorem Fx.m_Less_size (c : Fx K mg) : Meth K (He.ga K "Less") "size" (He.ma K (He.ga K "Less") "size") := c.meth "Less" "size" (by decide +kernel)
theorem Fx.m_Less_notes_at (c : Fx K mg) : Meth K (He.ga K "Less") "notes_at" (He.ma K (He.ga K "Less") "notes_at") := c.meth "Less" "notes_at" (by decide +kernel)
theorem Fx.m_Swap_inner (c : Fx K mg) : Meth K (He.ga K "Swap") "inner" (He.ma K (He.ga K "Swap") "inner") := c.meth "Swap" "inner" (by decide +kernel)
theorem Fx.m_Swap_size (c : Fx K mg) : Meth K (He.ga K "Swap") "size" (He.ma K (He.ga K "Swap") "size") := c.meth "Swap" "size" (by decide +kernel)
theorem Fx.m_Swap_notes_at (c : Fx K mg) : Meth K (He.ga K "Swap") "notes_at" (He.ma K (He.ga K "Swap") "notes_at") := c.meth "Swap" "notes_at" (by decide +kernel)
theorem Fx.m_Later_inner (c : Fx K mg) : Meth K (He.ga K "Later") "inner" (He.ma K (He.ga K "Later") "inner") := c.meth "Later" "inner" (by decide +kernel)
theorem Fx.m_Later_size (c : Fx K mg) : Meth K (He.ga K "Later") "size" (He.ma K (He.ga K "Later") "size") := c.meth "Later" "size" (by decide +kernel)
theorem Fx.m_Later_notes_at (c : Fx K mg) : Meth K (He.ga K "Later") "notes_at" (He.ma K (He.ga K "Later") "notes_at") := c.meth "Later" "notes_at" (by decide +kernel)
theorem Fx.m_Noted_inner (c : Fx K mg) : Meth K (He.ga K "Noted") "inner" (He.ma K (He.ga K "Noted") "inner") := c.meth "Noted" "inner" (by decide +kernel)
theorem Fx.m_Noted_size (c : Fx K mg) : Meth K (He.ga K "Noted") "size" (He.ma K (He.ga K "Noted") "size") := c.meth "Noted" "size" (by decide +kernel)
theorem Fx.m_Noted_notes_at (c : Fx K mg) : Meth K (He.ga K "Noted") "notes_at" (He.ma K (He.ga K "Noted") "notes_at") := c.meth "Noted" "notes_at" (by decide +kernel)
theorem Fx.m_As_inner (c : Fx K mg) : Meth K (He.ga K "As") "inner" (He.ma K (He.ga K "As") "inner") := c.meth "As" "inner" (by decide +kernel)
theorem Fx.m_As_size (c : Fx K mg) : Meth K (He.ga K "As") "size" (He.ma K (He.ga K "As") "size") := c.meth "As" "size" (by decide +kernel)
theorem Fx.k_Ring (c : Fx K mg) : Mk K (He.ga K "Ring") (He.ma K (He.ga K "Ring") "__init__") := c.mkr "Ring" (by decide +kernel)
theorem Fx.k_Days (c : Fx K mg) : Mk K (He.ga K "Days") (He.ma K (He.ga K "Days") "__init__") := c.mkr "Days" (by decide +kernel)
theorem Fx.k_Going (c : Fx K mg) : Mk K (He.ga K "Going") (He.ma K (He.ga K "Going") "__init__") := c.mkr "Going" (by decide +kernel)
theorem Fx.k_At (c : Fx K mg) : Mk K (He.ga K "At") (He.ma K (He.ga K "At") "__init__") := c.mkr "At" (by decide +kernel)
theorem Fx.k_Spread (c : Fx K mg) : Mk K (He.ga K "Spread") (He.ma K (He.ga K "Spread") "__init__") := c.mkr "Spread" (by decide +kernel)
theorem Fx.k_Book (c : Fx K mg) : Mk K (He.ga K "Book") (He.ma K (He.ga K "Book") "__init__") := c.mkr "Book" (by decide +kernel)
theorem Fx.k_Once (c : Fx K mg) : Mk K (He.ga K "Once") (He.ma K (He.ga K "Once") "__init__") := c.mkr "Once" (by decide +kernel)
theorem Fx.k_Every (c : Fx K mg) : Mk K (He.ga K "Every") (He.ma K (He.ga K "Every") "__init__") := c.mkr "Every" (by decide +kernel)
theorem Fx.k_Join (c : Fx K mg) : Mk K (He.ga K "Join") (He.ma K (He.ga K "Join") "__init__") := c.mkr "Join" (by decide +kernel)
theorem Fx.k_Less (c : Fx K mg) : Mk K (He.ga K "Less") (He.ma K (He.ga K "Less") "__init__") := c.mkr "Less" (by decide +kernel)
theorem Fx.k_Swap (c : Fx K mg) : Mk K (He.ga K "Swap") (He.ma K (He.ga K "Swap") "__init__") := c.mkr "Swap" (by decide +kernel)
theorem Fx.k_Later (c : Fx K mg) : Mk K (He.ga K "Later") (He.ma K (He.ga K "Later") "__init__") := c.mkr "Later" (by decide +kernel)
theorem Fx.k_Noted (c : Fx K mg) : Mk K (He.ga K "Noted") (He.ma K (He.ga K "Noted") "__init__") := c.mkr "Noted" (by decide +kernel)
theorem Fx.k_As (c : Fx K mg) : Mk K (He.ga K "As") (He.ma K (He.ga K "As") "__init__") := c.mkr "As" (by decide +kernel)
theorem Fx.t_Once_Card (c : Fx K mg) : PySem.W.kitOne K (.ref (He.ga K "Once")) (.ref (He.ga K "Card")) = some true := c.kit "Once" "Card" (by decide +kernel) (by decide +kernel)
theorem Fx.t_Once_As (c : Fx K mg) : PySem.W.kitOne K (.ref (He.ga K "Once")) (.ref (He.ga K "As")) = some false := c.kit "Once" "As" (by decide +kernel) (by decide +kernel)
theorem Fx.t_Once_Join (c : Fx K mg) : PySem.W.kitOne K (.ref (He.ga K "Once")) (.ref (He.ga K "Join")) = some false := c.kit "Once" "Join" (by decide +kernel) (by decide +kernel)
theorem Fx.t_Once_Less (c : Fx K mg) : PySem.W.kitOne K (.ref (He.ga K "Once")) (.ref (He.ga K "Less")) = some false := c.kit "Once" "Less" (by decide +kernel) (by decide +kernel)
theorem Fx.t_Once_Swap (c : Fx K mg) : PySem.W.kitOne K (.ref (He.ga K "Once")) (.ref (He.ga K "Swap")) = some false := c.kit "Once" "Swap" (by decide +kernel) (by decide +kernel)
theorem Fx.t_Once_Later (c : Fx K mg) : PySem.W.kitOne K (.ref (He.ga K "Once")) (.ref (He.ga K "Later")) = some false := c.kit "Once" "Later" (by decide +kernel) (by decide +kernel)
theorem Fx.t_Once_Noted (c : Fx K mg) : PySem.W.kitOne K (.ref (He.ga K "Once")) (.ref (He.ga K "Noted")) = some false := c.kit "Once" "Noted" (by decide +kernel) (by decide +kernel)
theorem Fx.t_Every_Card (c : Fx K mg) : PySem.W.kitOne K (.ref (He.ga K "Every")) (.ref (He.ga K "Card")) = some true := c.kit "Every" "Card" (by decide +kernel) (by decide +kernel)
theorem Fx.t_Every_As (c : Fx K mg) : PySem.W.kitOne K (.ref (He.ga K "Every")) (.ref (He.ga K "As")) = some false := c.kit "Every" "As" (by decide +kernel) (by decide +kernel)
theorem Fx.t_Every_Join (c : Fx K mg) : PySem.W.kitOne K (.ref (He.ga K "Every")) (.ref (He.ga K "Join")) = some false := c.kit "Every" "Join" (by decide +kernel) (by decide +kernel)
theorem Fx.t_Every_Less (c : Fx K mg) : PySem.W.kitOne K (.ref (He.ga K "Every")) (.ref (He.ga K "Less")) = some false := c.kit "Every" "Less" (by decide +kernel) (by decide +kernel)
theorem Fx.t_Every_Swap (c : Fx K mg) : PySem.W.kitOne K (.ref (He.ga K "Every")) (.ref (He.ga K "Swap")) = some false := c.kit "Every" "Swap" (by decide +kernel) (by decide +kernel)
theorem Fx.t_Every_Later (c : Fx K mg) : PySem.W.kitOne K (.ref (He.ga K "Every")) (.ref (He.ga K "Later")) = some false := c.kit "Every" "Later" (by decide +kernel) (by decide +kernel)
theorem Fx.t_Every_Noted (c : Fx K mg) : PySem.W.kitOne K (.ref (He.ga K "Every")) (.ref (He.ga K "Noted")) = some false := c.kit "Every" "Noted" (by decide +kernel) (by decide +kernel)
theorem Fx.t_Join_Card (c : Fx K mg) : PySem.W.kitOne K (.ref (He.ga K "Join")) (.ref (He.ga K "Card")) = some true := c.kit "Join" "Card" (by decide +kernel) (by decide +kernel)
theorem Fx.t_Join_As (c : Fx K mg) : PySem.W.kitOne K (.ref (He.ga K "Join")) (.ref (He.ga K "As")) = some false := c.kit "Join" "As" (by decide +kernel) (by decide +kernel)
theorem Fx.t_Join_Join (c : Fx K mg) : PySem.W.kitOne K (.ref (He.ga K "Join")) (.ref (He.ga K "Join")) = some true := c.kit "Join" "Join" (by decide +kernel) (by decide +kernel)
theorem Fx.t_Join_Less (c : Fx K mg) : PySem.W.kitOne K (.ref (He.ga K "Join")) (.ref (He.ga K "Less")) = some false := c.kit "Join" "Less" (by decide +kernel) (by decide +kernel)
theorem Fx.t_Join_Swap (c : Fx K mg) : PySem.W.kitOne K (.ref (He.ga K "Join")) (.ref (He.ga K "Swap")) = some false := c.kit "Join" "Swap" (by decide +kernel) (by decide +kernel)
theorem Fx.t_Join_Later (c : Fx K mg) : PySem.W.kitOne K (.ref (He.ga K "Join")) (.ref (He.ga K "Later")) = some false := c.kit "Join" "Later" (by decide +kernel) (by decide +kernel)
theorem Fx.t_Join_Noted (c : Fx K mg) : PySem.W.kitOne K (.ref (He.ga K "Join")) (.ref (He.ga K "Noted")) = some false := c.kit "Join" "Noted" (by decide +kernel) (by decide +kernel)
theorem Fx.t_Less_Card (c : Fx K mg) : PySem.W.kitOne K (.ref (He.ga K "Less")) (.ref (He.ga K "Card")) = some true := c.kit "Less" "Card" (by decide +kernel) (by decide +kernel)
theorem Fx.t_Less_As (c : Fx K mg) : PySem.W.kitOne K (.ref (He.ga K "Less")) (.ref (He.ga K "As")) = some false := c.kit "Less" "As" (by decide +kernel) (by decide +kernel)
theorem Fx.t_Less_Join (c : Fx K mg) : PySem.W.kitOne K (.ref (He.ga K "Less")) (.ref (He.ga K "Join")) = some false := c.kit "Less" "Join" (by decide +kernel) (by decide +kernel)
theorem Fx.t_Less_Less (c : Fx K mg) : PySem.W.kitOne K (.ref (He.ga K "Less")) (.ref (He.ga K "Less")) = some true := c.kit "Less" "Less" (by decide +kernel) (by decide +kernel)
theorem Fx.t_Less_Swap (c : Fx K mg) : PySem.W.kitOne K (.ref (He.ga K "Less")) (.ref (He.ga K "Swap")) = some false := c.kit "Less" "Swap" (by decide +kernel) (by decide +kernel)
theorem Fx.t_Less_Later (c : Fx K mg) : PySem.W.kitOne K (.ref (He.ga K "Less")) (.ref (He.ga K "Later")) = some false := c.kit "Less" "Later" (by decide +kernel) (by decide +kernel)
theorem Fx.t_Less_Noted (c : Fx K mg) : PySem.W.kitOne K (.ref (He.ga K "Less")) (.ref (He.ga K "Noted")) = some false := c.kit "Less" "Noted" (by decide +kernel) (by decide +kernel)
theorem Fx.t_Swap_Card (c : Fx K mg) : PySem.W.kitOne K (.ref (He.ga K "Swap")) (.ref (He.ga K "Card")) = some true := c.kit "Swap" "Card" (by decide +kernel) (by decide +kernel)
theorem Fx.t_Swap_As (c : Fx K mg) : PySem.W.kitOne K (.ref (He.ga K "Swap")) (.ref (He.ga K "As")) = some false := c.kit "Swap" "As" (by decide +kernel) (by decide +kernel)
theorem Fx.t_Swap_Join (c : Fx K mg) : PySem.W.kitOne K (.ref (He.ga K "Swap")) (.ref (He.ga K "Join")) = some false := c.kit "Swap" "Join" (by decide +kernel) (by decide +kernel)
theorem Fx.t_Swap_Less (c : Fx K mg) : PySem.W.kitOne K (.ref (He.ga K "Swap")) (.ref (He.ga K "Less")) = some false := c.kit "Swap" "Less" (by decide +kernel) (by decide +kernel)
theorem Fx.t_Swap_Swap (c : Fx K mg) : PySem.W.kitOne K (.ref (He.ga K "Swap")) (.ref (He.ga K "Swap")) = some true := c.kit "Swap" "Swap" (by decide +kernel) (by decide +kernel)
theorem Fx.t_Swap_Later (c : Fx K mg) : PySem.W.kitOne K (.ref (He.ga K "Swap")) (.ref (He.ga K "Later")) = some false := c.kit "Swap" "Later" (by decide +kernel) (by decide +kernel)
theorem Fx.t_Swap_Noted (c : Fx K mg) : PySem.W.kitOne K (.ref (He.ga K "Swap")) (.ref (He.ga K "Noted")) = some false := c.kit "Swap" "Noted" (by decide +kernel) (by decide +kernel)
theorem Fx.t_Later_Card (c : Fx K mg) : PySem.W.kitOne K (.ref (He.ga K "Later")) (.ref (He.ga K "Card")) = some true := c.kit "Later" "Card" (by decide +kernel) (by decide +kernel)
theorem Fx.t_Later_As (c : Fx K mg) : PySem.W.kitOne K (.ref (He.ga K "Later")) (.ref (He.ga K "As")) = some false := c.kit "Later" "As" (by decide +kernel) (by decide +kernel)
theorem Fx.t_Later_Join (c : Fx K mg) : PySem.W.kitOne K (.ref (He.ga K "Later")) (.ref (He.ga K "Join")) = some false := c.kit "Later" "Join" (by decide +kernel) (by decide +kernel)
theorem Fx.t_Later_Less (c : Fx K mg) : PySem.W.kitOne K (.ref (He.ga K "Later")) (.ref (He.ga K "Less")) = some false := c.kit "Later" "Less" (by decide +kernel) (by decide +kernel)
theorem Fx.t_Later_Swap (c : Fx K mg) : PySem.W.kitOne K (.ref (He.ga K "Later")) (.ref (He.ga K "Swap")) = some false := c.kit "Later" "Swap" (by decide +kernel) (by decide +kernel)
theorem Fx.t_Later_Later (c : Fx K mg) : PySem.W.kitOne K (.ref (He.ga K "Later")) (.ref (He.ga K "Later")) = some true := c.kit "Later" "Later" (by decide +kernel) (by decide +kernel)
theorem Fx.t_Later_Noted (c : Fx K mg) : PySem.W.kitOne K (.ref (He.ga K "Later")) (.ref (He.ga K "Noted")) = some false := c.kit "Later" "Noted" (by decide +kernel) (by decide +kernel)
theorem Fx.t_Noted_Card (c : Fx K mg) : PySem.W.kitOne K (.ref (He.ga K "Noted")) (.ref (He.ga K "Card")) = some true := c.kit "Noted" "Card" (by decide +kernel) (by decide +kernel)
theorem Fx.t_Noted_As (c : Fx K mg) : PySem.W.kitOne K (.ref (He.ga K "Noted")) (.ref (He.ga K "As")) = some false := c.kit "Noted" "As" (by decide +kernel) (by decide +kernel)
theorem Fx.t_Noted_Join (c : Fx K mg) : PySem.W.kitOne K (.ref (He.ga K "Noted")) (.ref (He.ga K "Join")) = some false := c.kit "Noted" "Join" (by decide +kernel) (by decide +kernel)
theorem Fx.t_Noted_Less (c : Fx K mg) : PySem.W.kitOne K (.ref (He.ga K "Noted")) (.ref (He.ga K "Less")) = some false := c.kit "Noted" "Less" (by decide +kernel) (by decide +kernel)
theorem Fx.t_Noted_Swap (c : Fx K mg) : PySem.W.kitOne K (.ref (He.ga K "Noted")) (.ref (He.ga K "Swap")) = some false := c.kit "Noted" "Swap" (by decide +kernel) (by decide +kernel)
theorem Fx.t_Noted_Later (c : Fx K mg) : PySem.W.kitOne K (.ref (He.ga K "Noted")) (.ref (He.ga K "Later")) = some false := c.kit "Noted" "Later" (by decide +kernel) (by decide +kernel)
theorem Fx.t_Noted_Noted (c : Fx K mg) : PySem.W.kitOne K (.ref (He.ga K "Noted")) (.ref (He.ga K "Noted")) = some true := c.kit "Noted" "Noted" (by decide +kernel) (by decide +kernel)
theorem Fx.t_As_Card (c : Fx K mg) : PySem.W.kitOne K (.ref (He.ga K "As")) (.ref (He.ga K "Card")) = some true := c.kit "As" "Card" (by decide +kernel) (by decide +kernel)
theorem Fx.t_As_As (c : Fx K mg) : PySem.W.kitOne K (.ref (He.ga K "As")) (.ref (He.ga K "As")) = some true := c.kit "As" "As" (by decide +kernel) (by decide +kernel)
theorem Fx.t_As_Join (c : Fx K mg) : PySem.W.kitOne K (.ref (He.ga K "As")) (.ref (He.ga K "Join")) = some false := c.kit "As" "Join" (by decide +kernel) (by decide +kernel)
theorem Fx.t_As_Less (c : Fx K mg) : PySem.W.kitOne K (.ref (He.ga K "As")) (.ref (He.ga K "Less")) = some false := c.kit "As" "Less" (by decide +kernel) (by decide +kernel)
theorem Fx.t_As_Swap (c : Fx K mg) : PySem.W.kitOne K (.ref (He.ga K "As")) (.ref (He.ga K "Swap")) = some false := c.kit "As" "Swap" (by decide +kernel) (by decide +kernel)
theorem Fx.t_As_Later (c : Fx K mg) : PySem.W.kitOne K (.ref (He.ga K "As")) (.ref (He.ga K "Later")) = some false := c.kit "As" "Later" (by decide +kernel) (by decide +kernel)
theorem Fx.t_As_Noted (c : Fx K mg) : PySem.W.kitOne K (.ref (He.ga K "As")) (.ref (He.ga K "Noted")) = some false := c.kit "As" "Noted" (by decide +kernel) (by decide +kernel)
theorem Fx.t_Ring_Ring (c : Fx K mg) : PySem.W.kitOne K (.ref (He.ga K "Ring")) (.ref (He.ga K "Ring")) = some true := c.kit2 "Ring" "Ring" (by decide +kernel)
theorem Fx.t_At_Short (c : Fx K mg) : PySem.W.kitOne K (.ref (He.ga K "At")) (.ref (He.ga K "Short")) = some true := c.kit2 "At" "Short" (by decide +kernel)
theorem Fx.t_Spread_Spread (c : Fx K mg) : PySem.W.kitOne K (.ref (He.ga K "Spread")) (.ref (He.ga K "Spread")) = some true := c.kit2 "Spread" "Spread" (by decide +kernel)
theorem Fx.t_Days_Days (c : Fx K mg) : PySem.W.kitOne K (.ref (He.ga K "Days")) (.ref (He.ga K "Days")) = some true := c.kit2 "Days" "Days" (by decide +kernel)
theorem Fx.a_Once (c : Fx K mg) : He.ma K (He.ga K "Once") "inner" = He.ma K (He.ga K "Card") "inner" ∧ He.ma K (He.ga K "Once") "size" = He.ma K (He.ga K "Card") "size" := c.sam "Once" (by decide +kernel)
theorem Fx.a_Every (c : Fx K mg) : He.ma K (He.ga K "Every") "inner" = He.ma K (He.ga K "Card") "inner" ∧ He.ma K (He.ga K "Every") "size" = He.ma K (He.ga K "Card") "size" := c.sam "Every" (by decide +kernel)
theorem Fx.a_Join (c : Fx K mg) : He.ma K (He.ga K "Join") "inner" = He.ma K (He.ga K "Card") "inner" ∧ He.ma K (He.ga K "Join") "size" = He.ma K (He.ga K "Card") "size" := c.sam "Join" (by decide +kernel)
theorem Fx.a_Less (c : Fx K mg) : He.ma K (He.ga K "Less") "inner" = He.ma K (He.ga K "Card") "inner" ∧ He.ma K (He.ga K "Less") "size" = He.ma K (He.ga K "Card") "size" := c.sam "Less" (by decide +kernel)
theorem Fx.a_Swap (c : Fx K mg) : He.ma K (He.ga K "Swap") "inner" = He.ma K (He.ga K "Card") "inner" ∧ He.ma K (He.ga K "Swap") "size" = He.ma K (He.ga K "Card") "size" := c.sam "Swap" (by decide +kernel)
theorem Fx.a_Later (c : Fx K mg) : He.ma K (He.ga K "Later") "inner" = He.ma K (He.ga K "Card") "inner" ∧ He.ma K (He.ga K "Later") "size" = He.ma K (He.ga K "Card") "size" := c.sam "Later" (by decide +kernel)
theorem Fx.a_Noted (c : Fx K mg) : He.ma K (He.ga K "Noted") "inner" = He.ma K (He.ga K "Card") "inner" ∧ He.ma K (He.ga K "Noted") "size" = He.ma K (He.ga K "Card") "size" := c.sam "Noted" (by decide +kernel)
theorem Fx.a_As (c : Fx K mg) : He.ma K (He.ga K "As") "inner" = He.ma K (He.ga K "Card") "inner" ∧ He.ma K (He.ga K "As") "size" = He.ma K (He.ga K "Card") "size" := c.sam "As" (by decide +kernel)
end
/-! ### the scopes, the places -/
theorem S_is_whole : FnScope N_is_whole ["thing"] d_is_whole.scope := ⟨rfl, rfl, rfl, by decide +kernel, rfl, by decide +kernel, by decide +kernel⟩
theorem M_is_whole : d_is_whole ∈ fnL := List.mem_of_getElem? (i := 0) rfl
theorem S_is_moment : FnScope N_is_moment ["thing"] d_is_moment.scope := ⟨rfl, rfl, rfl, by decide +kernel, rfl, by decide +kernel, by decide +kernel⟩
theorem M_is_moment : d_is_moment ∈ fnL := List.mem_of_getElem? (i := 1) rfl
theorem S_want_moment : FnScope N_want_moment ["thing"] d_want_moment.scope := ⟨rfl, rfl, rfl, by decide +kernel, rfl, by decide +kernel, by decide +kernel⟩
theorem M_want_moment : d_want_moment ∈ fnL := List.mem_of_getElem? (i := 2) rfl
theorem S_want_day : FnScope N_want_day ["thing"] d_want_day.scope := ⟨rfl, rfl, rfl, by decide +kernel, rfl, by decide +kernel, by decide +kernel⟩
theorem M_want_day : d_want_day ∈ fnL := List.mem_of_getElem? (i := 3) rfl
theorem S_are_signs : FnScope N_are_signs ["thing"] d_are_signs.scope := ⟨rfl, rfl, rfl, by decide +kernel, rfl, by decide +kernel, by decide +kernel⟩
theorem M_are_signs : d_are_signs ∈ fnL := List.mem_of_getElem? (i := 4) rfl
theorem S_Ring_init : FnScope N_Ring_init ["self", "text"] d_Ring_init.scope := ⟨rfl, rfl, rfl, by decide +kernel, rfl, by decide +kernel, by decide +kernel⟩
theorem M_Ring_init : d_Ring_init ∈ fnL := List.mem_of_getElem? (i := 5) rfl
theorem S_Ring_rings : FnScope N_Ring_rings ["self", "day"] d_Ring_rings.scope := ⟨rfl, rfl, rfl, by decide +kernel, rfl, by decide +kernel, by decide +kernel⟩
theorem M_Ring_rings : d_Ring_rings ∈ fnL := List.mem_of_getElem? (i := 6) rfl
theorem S_told_days : FnScope N_told_days ["thing"] d_told_days.scope := ⟨rfl, rfl, rfl, by decide +kernel, rfl, by decide +kernel, by decide +kernel⟩
theorem M_told_days : d_told_days ∈ fnL := List.mem_of_getElem? (i := 7) rfl
theorem S_want_till : FnScope N_want_till ["since", "till"] d_want_till.scope := ⟨rfl, rfl, rfl, by decide +kernel, rfl, by decide +kernel, by decide +kernel⟩
theorem M_want_till : d_want_till ∈ fnL := List.mem_of_getElem? (i := 8) rfl
theorem S_Days_init : FnScope N_Days_init ["self", "ring", "since", "till", "out", "also"] d_Days_init.scope := ⟨rfl, rfl, rfl, by decide +kernel, rfl, by decide +kernel, by decide +kernel⟩
theorem M_Days_init : d_Days_init ∈ fnL := List.mem_of_getElem? (i := 9) rfl
theorem S_Days_has : FnScope N_Days_has ["self", "day"] d_Days_has.scope := ⟨rfl, rfl, rfl, by decide +kernel, rfl, by decide +kernel, by decide +kernel⟩
theorem M_Days_has : d_Days_has ∈ fnL := List.mem_of_getElem? (i := 10) rfl
theorem S_is_name : FnScope N_is_name ["thing"] d_is_name.scope := ⟨rfl, rfl, rfl, by decide +kernel, rfl, by decide +kernel, by decide +kernel⟩
theorem M_is_name : d_is_name ∈ fnL := List.mem_of_getElem? (i := 11) rfl
theorem S_notes_of : FnScope N_notes_of ["notes"] d_notes_of.scope := ⟨rfl, rfl, rfl, by decide +kernel, rfl, by decide +kernel, by decide +kernel⟩
theorem M_notes_of : d_notes_of ∈ fnL := List.mem_of_getElem? (i := 12) rfl
theorem S_notes_together : FnScope N_notes_together ["one", "other"] d_notes_together.scope := ⟨rfl, rfl, rfl, by decide +kernel, rfl, by decide +kernel, by decide +kernel⟩
theorem M_notes_together : d_notes_together ∈ fnL := List.mem_of_getElem? (i := 13) rfl
theorem S_Going_init : FnScope N_Going_init ["self", "moment", "notes"] d_Going_init.scope := ⟨rfl, rfl, rfl, by decide +kernel, rfl, by decide +kernel, by decide +kernel⟩
theorem M_Going_init : d_Going_init ∈ fnL := List.mem_of_getElem? (i := 14) rfl
theorem S_is_number : FnScope N_is_number ["thing", "least"] d_is_number.scope := ⟨rfl, rfl, rfl, by decide +kernel, rfl, by decide +kernel, by decide +kernel⟩
theorem M_is_number : d_is_number ∈ fnL := List.mem_of_getElem? (i := 15) rfl
theorem S_all_rising : FnScope N_all_rising ["parts"] d_all_rising.scope := ⟨rfl, rfl, rfl, by decide +kernel, rfl, by decide +kernel, by decide +kernel⟩
theorem M_all_rising : d_all_rising ∈ fnL := List.mem_of_getElem? (i := 16) rfl
theorem S_shorts_in : FnScope N_shorts_in ["parts"] d_shorts_in.scope := ⟨rfl, rfl, rfl, by decide +kernel, rfl, by decide +kernel, by decide +kernel⟩
theorem M_shorts_in : d_shorts_in ∈ fnL := List.mem_of_getElem? (i := 17) rfl
theorem S_row_moments : FnScope N_row_moments ["parts"] d_row_moments.scope := ⟨rfl, rfl, rfl, by decide +kernel, rfl, by decide +kernel, by decide +kernel⟩
theorem M_row_moments : d_row_moments ∈ fnL := List.mem_of_getElem? (i := 18) rfl
theorem S_row_many : FnScope N_row_many ["parts"] d_row_many.scope := ⟨rfl, rfl, rfl, by decide +kernel, rfl, by decide +kernel, by decide +kernel⟩
theorem M_row_many : d_row_many ∈ fnL := List.mem_of_getElem? (i := 19) rfl
theorem S_At_init : FnScope N_At_init ["self", "moment"] d_At_init.scope := ⟨rfl, rfl, rfl, by decide +kernel, rfl, by decide +kernel, by decide +kernel⟩
theorem M_At_init : d_At_init ∈ fnL := List.mem_of_getElem? (i := 20) rfl
theorem S_At_moments : FnScope N_At_moments ["self"] d_At_moments.scope := ⟨rfl, rfl, rfl, by decide +kernel, rfl, by decide +kernel, by decide +kernel⟩
theorem M_At_moments : d_At_moments ∈ fnL := List.mem_of_getElem? (i := 21) rfl
theorem S_At_begins : FnScope N_At_begins ["self"] d_At_begins.scope := ⟨rfl, rfl, rfl, by decide +kernel, rfl, by decide +kernel, by decide +kernel⟩
theorem M_At_begins : d_At_begins ∈ fnL := List.mem_of_getElem? (i := 22) rfl
theorem S_At_ends : FnScope N_At_ends ["self"] d_At_ends.scope := ⟨rfl, rfl, rfl, by decide +kernel, rfl, by decide +kernel, by decide +kernel⟩
theorem M_At_ends : d_At_ends ∈ fnL := List.mem_of_getElem? (i := 23) rfl
theorem S_At_means_many : FnScope N_At_means_many ["self"] d_At_means_many.scope := ⟨rfl, rfl, rfl, by decide +kernel, rfl, by decide +kernel, by decide +kernel⟩
theorem M_At_means_many : d_At_means_many ∈ fnL := List.mem_of_getElem? (i := 24) rfl
theorem S_Spread_init : FnScope N_Spread_init ["self", "parts"] d_Spread_init.scope := ⟨rfl, rfl, rfl, by decide +kernel, rfl, by decide +kernel, by decide +kernel⟩
theorem M_Spread_init : d_Spread_init ∈ fnL := List.mem_of_getElem? (i := 25) rfl
theorem S_Spread_moments : FnScope N_Spread_moments ["self"] d_Spread_moments.scope := ⟨rfl, rfl, rfl, by decide +kernel, rfl, by decide +kernel, by decide +kernel⟩
theorem M_Spread_moments : d_Spread_moments ∈ fnL := List.mem_of_getElem? (i := 26) rfl
theorem S_want : FnScope N_want ["truth", "words"] d_want.scope := ⟨rfl, rfl, rfl, by decide +kernel, rfl, by decide +kernel, by decide +kernel⟩
theorem M_want : d_want ∈ fnL := List.mem_of_getElem? (i := 27) rfl
theorem S_Card_init : FnScope N_Card_init ["self", "held"] d_Card_init.scope := ⟨rfl, rfl, rfl, by decide +kernel, rfl, by decide +kernel, by decide +kernel⟩
theorem M_Card_init : d_Card_init ∈ fnL := List.mem_of_getElem? (i := 28) rfl
theorem S_Card_inner : FnScope N_Card_inner ["self"] d_Card_inner.scope := ⟨rfl, rfl, rfl, by decide +kernel, rfl, by decide +kernel, by decide +kernel⟩
theorem M_Card_inner : d_Card_inner ∈ fnL := List.mem_of_getElem? (i := 29) rfl
theorem S_Card_size : FnScope N_Card_size ["self"] d_Card_size.scope := ⟨rfl, rfl, rfl, by decide +kernel, rfl, by decide +kernel, by decide +kernel⟩
theorem M_Card_size : d_Card_size ∈ fnL := List.mem_of_getElem? (i := 30) rfl
theorem S_Once_init : FnScope N_Once_init ["self", "spread", "notes"] d_Once_init.scope := ⟨rfl, rfl, rfl, by decide +kernel, rfl, by decide +kernel, by decide +kernel⟩
theorem M_Once_init : d_Once_init ∈ fnL := List.mem_of_getElem? (i := 31) rfl
theorem S_Once_notes_at : FnScope N_Once_notes_at ["self", "moment"] d_Once_notes_at.scope := ⟨rfl, rfl, rfl, by decide +kernel, rfl, by decide +kernel, by decide +kernel⟩
theorem M_Once_notes_at : d_Once_notes_at ∈ fnL := List.mem_of_getElem? (i := 32) rfl
theorem S_Every_init : FnScope N_Every_init ["self", "days", "spread", "notes"] d_Every_init.scope := ⟨rfl, rfl, rfl, by decide +kernel, rfl, by decide +kernel, by decide +kernel⟩
theorem M_Every_init : d_Every_init ∈ fnL := List.mem_of_getElem? (i := 33) rfl
theorem S_Every_notes_at : FnScope N_Every_notes_at ["self", "moment"] d_Every_notes_at.scope := ⟨rfl, rfl, rfl, by decide +kernel, rfl, by decide +kernel, by decide +kernel⟩
theorem M_Every_notes_at : d_Every_notes_at ∈ fnL := List.mem_of_getElem? (i := 34) rfl
theorem S_Join_init : FnScope N_Join_init ["self", "parts"] d_Join_init.scope := ⟨rfl, rfl, rfl, by decide +kernel, rfl, by decide +kernel, by decide +kernel⟩
theorem M_Join_init : d_Join_init ∈ fnL := List.mem_of_getElem? (i := 35) rfl
theorem S_Join_notes_at : FnScope N_Join_notes_at ["self", "moment"] d_Join_notes_at.scope := ⟨rfl, rfl, rfl, by decide +kernel, rfl, by decide +kernel, by decide +kernel⟩
theorem M_Join_notes_at : d_Join_notes_at ∈ fnL := List.mem_of_getElem? (i := 36) rfl
theorem S_Less_init : FnScope N_Less_init ["self", "one", "other"] d_Less_init.scope := ⟨rfl, rfl, rfl, by decide +kernel, rfl, by decide +kernel, by decide +kernel⟩
theorem M_Less_init : d_Less_init ∈ fnL := List.mem_of_getElem? (i := 37) rfl
theorem S_Less_notes_at : FnScope N_Less_notes_at ["self", "moment"] d_Less_notes_at.scope := ⟨rfl, rfl, rfl, by decide +kernel, rfl, by decide +kernel, by decide +kernel⟩
theorem M_Less_notes_at : d_Less_notes_at ∈ fnL := List.mem_of_getElem? (i := 38) rfl
theorem S_Swap_init : FnScope N_Swap_init ["self", "one", "days", "other"] d_Swap_init.scope := ⟨rfl, rfl, rfl, by decide +kernel, rfl, by decide +kernel, by decide +kernel⟩
theorem M_Swap_init : d_Swap_init ∈ fnL := List.mem_of_getElem? (i := 39) rfl
theorem S_Swap_notes_at : FnScope N_Swap_notes_at ["self", "moment"] d_Swap_notes_at.scope := ⟨rfl, rfl, rfl, by decide +kernel, rfl, by decide +kernel, by decide +kernel⟩
theorem M_Swap_notes_at : d_Swap_notes_at ∈ fnL := List.mem_of_getElem? (i := 40) rfl
theorem S_Later_init : FnScope N_Later_init ["self", "one", "minutes"] d_Later_init.scope := ⟨rfl, rfl, rfl, by decide +kernel, rfl, by decide +kernel, by decide +kernel⟩
theorem M_Later_init : d_Later_init ∈ fnL := List.mem_of_getElem? (i := 41) rfl
theorem S_Later_notes_at : FnScope N_Later_notes_at ["self", "moment"] d_Later_notes_at.scope := ⟨rfl, rfl, rfl, by decide +kernel, rfl, by decide +kernel, by decide +kernel⟩
theorem M_Later_notes_at : d_Later_notes_at ∈ fnL := List.mem_of_getElem? (i := 42) rfl
theorem S_Noted_init : FnScope N_Noted_init ["self", "one", "note"] d_Noted_init.scope := ⟨rfl, rfl, rfl, by decide +kernel, rfl, by decide +kernel, by decide +kernel⟩
theorem M_Noted_init : d_Noted_init ∈ fnL := List.mem_of_getElem? (i := 43) rfl
theorem S_Noted_notes_at : FnScope N_Noted_notes_at ["self", "moment"] d_Noted_notes_at.scope := ⟨rfl, rfl, rfl, by decide +kernel, rfl, by decide +kernel, by decide +kernel⟩
theorem M_Noted_notes_at : d_Noted_notes_at ∈ fnL := List.mem_of_getElem? (i := 44) rfl
theorem S_As_init : FnScope N_As_init ["self", "name"] d_As_init.scope := ⟨rfl, rfl, rfl, by decide +kernel, rfl, by decide +kernel, by decide +kernel⟩
theorem M_As_init : d_As_init ∈ fnL := List.mem_of_getElem? (i := 45) rfl
theorem S_first_as : FnScope N_first_as ["card"] d_first_as.scope := ⟨rfl, rfl, rfl, by decide +kernel, rfl, by decide +kernel, by decide +kernel⟩
theorem M_first_as : d_first_as ∈ fnL := List.mem_of_getElem? (i := 46) rfl
theorem S_want_card : FnScope N_want_card ["card"] d_want_card.scope := ⟨rfl, rfl, rfl, by decide +kernel, rfl, by decide +kernel, by decide +kernel⟩
theorem M_want_card : d_want_card ∈ fnL := List.mem_of_getElem? (i := 47) rfl
theorem S_want_known : FnScope N_want_known ["card"] d_want_known.scope := ⟨rfl, rfl, rfl, by decide +kernel, rfl, by decide +kernel, by decide +kernel⟩
theorem M_want_known : d_want_known ∈ fnL := List.mem_of_getElem? (i := 48) rfl
theorem S_going_at : FnScope N_going_at ["card", "moment"] d_going_at.scope := ⟨rfl, rfl, rfl, by decide +kernel, rfl, by decide +kernel, by decide +kernel⟩
theorem M_going_at : d_going_at ∈ fnL := List.mem_of_getElem? (i := 49) rfl
theorem S_changed_card : FnScope N_changed_card ["card", "changed"] d_changed_card.scope := ⟨rfl, rfl, rfl, by decide +kernel, rfl, by decide +kernel, by decide +kernel⟩
theorem M_changed_card : d_changed_card ∈ fnL := List.mem_of_getElem? (i := 50) rfl
theorem S_names_in : FnScope N_names_in ["card"] d_names_in.scope := ⟨rfl, rfl, rfl, by decide +kernel, rfl, by decide +kernel, by decide +kernel⟩
theorem M_names_in : d_names_in ∈ fnL := List.mem_of_getElem? (i := 51) rfl
theorem S_chain_round : FnScope N_chain_round ["lines", "name"] d_chain_round.scope := ⟨rfl, rfl, rfl, by decide +kernel, rfl, by decide +kernel, by decide +kernel⟩
theorem M_chain_round : d_chain_round ∈ fnL := List.mem_of_getElem? (i := 52) rfl
theorem S_count_card : FnScope N_count_card ["lines", "card", "found"] d_count_card.scope := ⟨rfl, rfl, rfl, by decide +kernel, rfl, by decide +kernel, by decide +kernel⟩
theorem M_count_card : d_count_card ∈ fnL := List.mem_of_getElem? (i := 53) rfl
theorem S_most_meant : FnScope N_most_meant ["lines"] d_most_meant.scope := ⟨rfl, rfl, rfl, by decide +kernel, rfl, by decide +kernel, by decide +kernel⟩
theorem M_most_meant : d_most_meant ∈ fnL := List.mem_of_getElem? (i := 54) rfl
theorem S_with_inner : FnScope N_with_inner ["card", "some"] d_with_inner.scope := ⟨rfl, rfl, rfl, by decide +kernel, rfl, by decide +kernel, by decide +kernel⟩
theorem M_with_inner : d_with_inner ∈ fnL := List.mem_of_getElem? (i := 55) rfl
theorem S_meaning : FnScope N_meaning ["card", "meanings"] d_meaning.scope := ⟨rfl, rfl, rfl, by decide +kernel, rfl, by decide +kernel, by decide +kernel⟩
theorem M_meaning : d_meaning ∈ fnL := List.mem_of_getElem? (i := 56) rfl
theorem S_all_meanings : FnScope N_all_meanings ["lines"] d_all_meanings.scope := ⟨rfl, rfl, rfl, by decide +kernel, rfl, by decide +kernel, by decide +kernel⟩
theorem M_all_meanings : d_all_meanings ∈ fnL := List.mem_of_getElem? (i := 57) rfl
theorem S_Book_init : FnScope N_Book_init ["self"] d_Book_init.scope := ⟨rfl, rfl, rfl, by decide +kernel, rfl, by decide +kernel, by decide +kernel⟩
theorem M_Book_init : d_Book_init ∈ fnL := List.mem_of_getElem? (i := 58) rfl
theorem S_Book_names : FnScope N_Book_names ["self"] d_Book_names.scope := ⟨rfl, rfl, rfl, by decide +kernel, rfl, by decide +kernel, by decide +kernel⟩
theorem M_Book_names : d_Book_names ∈ fnL := List.mem_of_getElem? (i := 59) rfl
theorem S_Book_want_line : FnScope N_Book_want_line ["self", "name"] d_Book_want_line.scope := ⟨rfl, rfl, rfl, by decide +kernel, rfl, by decide +kernel, by decide +kernel⟩
theorem M_Book_want_line : d_Book_want_line ∈ fnL := List.mem_of_getElem? (i := 60) rfl
theorem S_Book_put : FnScope N_Book_put ["self", "name", "card"] d_Book_put.scope := ⟨rfl, rfl, rfl, by decide +kernel, rfl, by decide +kernel, by decide +kernel⟩
theorem M_Book_put : d_Book_put ∈ fnL := List.mem_of_getElem? (i := 61) rfl
theorem S_Book_take_out : FnScope N_Book_take_out ["self", "name"] d_Book_take_out.scope := ⟨rfl, rfl, rfl, by decide +kernel, rfl, by decide +kernel, by decide +kernel⟩
theorem M_Book_take_out : d_Book_take_out ∈ fnL := List.mem_of_getElem? (i := 62) rfl
theorem S_Book_meant : FnScope N_Book_meant ["self", "name"] d_Book_meant.scope := ⟨rfl, rfl, rfl, by decide +kernel, rfl, by decide +kernel, by decide +kernel⟩
theorem M_Book_meant : d_Book_meant ∈ fnL := List.mem_of_getElem? (i := 63) rfl
theorem S_Book_now : FnScope N_Book_now ["self", "name"] d_Book_now.scope := ⟨rfl, rfl, rfl, by decide +kernel, rfl, by decide +kernel, by decide +kernel⟩
theorem M_Book_now : d_Book_now ∈ fnL := List.mem_of_getElem? (i := 64) rfl
theorem S_L_pot : FnScope N_L_pot ["_law_script", "_law_k"] d_L_pot.scope := ⟨rfl, rfl, rfl, by decide +kernel, rfl, by decide +kernel, by decide +kernel⟩
theorem M_L_pot : d_L_pot ∈ fnL := List.mem_of_getElem? (i := 65) rfl
theorem S_L_take : FnScope N_L_take ["_law_pot_here", "_law_many"] d_L_take.scope := ⟨rfl, rfl, rfl, by decide +kernel, rfl, by decide +kernel, by decide +kernel⟩
theorem M_L_take : d_L_take ∈ fnL := List.mem_of_getElem? (i := 66) rfl
theorem S_L_word : FnScope N_L_word ["_law_pot_here"] d_L_word.scope := ⟨rfl, rfl, rfl, by decide +kernel, rfl, by decide +kernel, by decide +kernel⟩
theorem M_L_word : d_L_word ∈ fnL := List.mem_of_getElem? (i := 67) rfl
theorem S_L_pool : FnScope N_L_pool ["_law_pot_here", "_law_many"] d_L_pool.scope := ⟨rfl, rfl, rfl, by decide +kernel, rfl, by decide +kernel, by decide +kernel⟩
theorem M_L_pool : d_L_pool ∈ fnL := List.mem_of_getElem? (i := 68) rfl
theorem S_L_lot : FnScope N_L_lot ["_law_pot_here"] d_L_lot.scope := ⟨rfl, rfl, rfl, by decide +kernel, rfl, by decide +kernel, by decide +kernel⟩
theorem M_L_lot : d_L_lot ∈ fnL := List.mem_of_getElem? (i := 69) rfl
theorem S_L_minute : FnScope N_L_minute ["_law_pot_here"] d_L_minute.scope := ⟨rfl, rfl, rfl, by decide +kernel, rfl, by decide +kernel, by decide +kernel⟩
theorem M_L_minute : d_L_minute ∈ fnL := List.mem_of_getElem? (i := 70) rfl
theorem S_L_days : FnScope N_L_days ["_law_pot_here"] d_L_days.scope := ⟨rfl, rfl, rfl, by decide +kernel, rfl, by decide +kernel, by decide +kernel⟩
theorem M_L_days : d_L_days ∈ fnL := List.mem_of_getElem? (i := 71) rfl
theorem S_L_leaf : FnScope N_L_leaf ["_law_pot_here"] d_L_leaf.scope := ⟨rfl, rfl, rfl, by decide +kernel, rfl, by decide +kernel, by decide +kernel⟩
theorem M_L_leaf : d_L_leaf ∈ fnL := List.mem_of_getElem? (i := 72) rfl
theorem S_L_card : FnScope N_L_card ["_law_pot_here", "_law_deep", "_law_names"] d_L_card.scope := ⟨rfl, rfl, rfl, by decide +kernel, rfl, by decide +kernel, by decide +kernel⟩
theorem M_L_card : d_L_card ∈ fnL := List.mem_of_getElem? (i := 73) rfl
theorem S_L_inner : FnScope N_L_inner ["_law_card_here"] d_L_inner.scope := ⟨rfl, rfl, rfl, by decide +kernel, rfl, by decide +kernel, by decide +kernel⟩
theorem M_L_inner : d_L_inner ∈ fnL := List.mem_of_getElem? (i := 74) rfl
theorem S_L_on : FnScope N_L_on ["_law_days_here"] d_L_on.scope := ⟨rfl, rfl, rfl, by decide +kernel, rfl, by decide +kernel, by decide +kernel⟩
theorem M_L_on : d_L_on ∈ fnL := List.mem_of_getElem? (i := 75) rfl
theorem S_L_made : FnScope N_L_made ["_law_card_here"] d_L_made.scope := ⟨rfl, rfl, rfl, by decide +kernel, rfl, by decide +kernel, by decide +kernel⟩
theorem M_L_made : d_L_made ∈ fnL := List.mem_of_getElem? (i := 76) rfl
theorem S_L_names_in : FnScope N_L_names_in ["_law_card_here"] d_L_names_in.scope := ⟨rfl, rfl, rfl, by decide +kernel, rfl, by decide +kernel, by decide +kernel⟩
theorem M_L_names_in : d_L_names_in ∈ fnL := List.mem_of_getElem? (i := 77) rfl
theorem S_L_size : FnScope N_L_size ["_law_card_here", "_law_lines"] d_L_size.scope := ⟨rfl, rfl, rfl, by decide +kernel, rfl, by decide +kernel, by decide +kernel⟩
theorem M_L_size : d_L_size ∈ fnL := List.mem_of_getElem? (i := 78) rfl
theorem S_L_has : FnScope N_L_has ["_law_days_here", "_law_spot"] d_L_has.scope := ⟨rfl, rfl, rfl, by decide +kernel, rfl, by decide +kernel, by decide +kernel⟩
theorem M_L_has : d_L_has ∈ fnL := List.mem_of_getElem? (i := 79) rfl
theorem S_L_joined : FnScope N_L_joined ["_law_first", "_law_last"] d_L_joined.scope := ⟨rfl, rfl, rfl, by decide +kernel, rfl, by decide +kernel, by decide +kernel⟩
theorem M_L_joined : d_L_joined ∈ fnL := List.mem_of_getElem? (i := 80) rfl
theorem S_L_notes : FnScope N_L_notes ["_law_card_here", "_law_spot", "_law_lines"] d_L_notes.scope := ⟨rfl, rfl, rfl, by decide +kernel, rfl, by decide +kernel, by decide +kernel⟩
theorem M_L_notes : d_L_notes ∈ fnL := List.mem_of_getElem? (i := 81) rfl
theorem S_L_goes : FnScope N_L_goes ["_law_card_here", "_law_lines"] d_L_goes.scope := ⟨rfl, rfl, rfl, by decide +kernel, rfl, by decide +kernel, by decide +kernel⟩
theorem M_L_goes : d_L_goes ∈ fnL := List.mem_of_getElem? (i := 82) rfl
theorem S_L_below : FnScope N_L_below ["_law_lines", "_law_name"] d_L_below.scope := ⟨rfl, rfl, rfl, by decide +kernel, rfl, by decide +kernel, by decide +kernel⟩
theorem M_L_below : d_L_below ∈ fnL := List.mem_of_getElem? (i := 83) rfl
theorem S_L_free : FnScope N_L_free ["_law_lines", "_law_name", "_law_names"] d_L_free.scope := ⟨rfl, rfl, rfl, by decide +kernel, rfl, by decide +kernel, by decide +kernel⟩
theorem M_L_free : d_L_free ∈ fnL := List.mem_of_getElem? (i := 84) rfl
theorem S_L_new_card : FnScope N_L_new_card ["_law_pot_here", "_law_lines", "_law_name", "_law_names", "_law_deep"] d_L_new_card.scope := ⟨rfl, rfl, rfl, by decide +kernel, rfl, by decide +kernel, by decide +kernel⟩
theorem M_L_new_card : d_L_new_card ∈ fnL := List.mem_of_getElem? (i := 85) rfl
theorem S_L_has_as : FnScope N_L_has_as ["_law_card_here"] d_L_has_as.scope := ⟨rfl, rfl, rfl, by decide +kernel, rfl, by decide +kernel, by decide +kernel⟩
theorem M_L_has_as : d_L_has_as ∈ fnL := List.mem_of_getElem? (i := 86) rfl
theorem S_L_at : FnScope N_L_at ["_law_card_here", "_law_spot"] d_L_at.scope := ⟨rfl, rfl, rfl, by decide +kernel, rfl, by decide +kernel, by decide +kernel⟩
theorem M_L_at : d_L_at ∈ fnL := List.mem_of_getElem? (i := 87) rfl
theorem S_L_line_right : FnScope N_L_line_right ["_law_book", "_law_lines", "_law_name", "_law_spots_here"] d_L_line_right.scope := ⟨rfl, rfl, rfl, by decide +kernel, rfl, by decide +kernel, by decide +kernel⟩
theorem M_L_line_right : d_L_line_right ∈ fnL := List.mem_of_getElem? (i := 88) rfl
theorem S_L_spots : FnScope N_L_spots ["_law_pot_here", "_law_lines"] d_L_spots.scope := ⟨rfl, rfl, rfl, by decide +kernel, rfl, by decide +kernel, by decide +kernel⟩
theorem M_L_spots : d_L_spots ∈ fnL := List.mem_of_getElem? (i := 89) rfl
theorem S_law : FnScope N_law ["_law_script"] d_law.scope := ⟨rfl, rfl, rfl, by decide +kernel, rfl, by decide +kernel, by decide +kernel⟩
theorem M_law : d_law ∈ fnL := List.mem_of_getElem? (i := 90) rfl
end Tr

set_option Elab.async false
set_option linter.all false
namespace Tr
open PySem PySem.Spec L2 PyProof PyProof.Rows
section
variable {P : Program} {w : World} {K : PySem.W.Frag} {mg : Str → Option Value} {base : Heap}
/-- a def with a family of promises -/
theorem kp_defx {α : Type} {d : He.DefD} {N ps : List Str} {k n : Nat} {F : α → TSpec} (c : Fx K mg) (hd : d ∈ fnL) (S : FnScope N ps d.scope) (hn : ps.length = n)
    (hb : ∀ {fd : FuncData}, FunD K d.name d.qual d.params d.body d.scope (d.dvs K) (d.kws K) (He.fAd K d.at_) fd → Binds K fd ps [])
    (hbody : ∀ (x : α) (cdv : Value) (A : Around) (outer : List Env) (s : Shared) (H : Hp) (E : XK), Room k (A.deeper (envOfC d.qual d.scope s.heap.objs.size (He.fAd K d.at_) cdv)) →
      ∃ w0, QSs (cxOf CX0 P w K mg base N d.qual d.scope (He.fAd K d.at_) cdv A outer s H E).nox d.body w0 ∧ ∀ ts M Q, ts.length = n → F x ts M Q → w0 (endsF Q) (startT N ts) M) :
    Kp P w K mg base d.at_ (k + 1) n (fun ts M Q => ∃ x, F x ts M Q) := by
  obtain ⟨fd, FD⟩ := c.fn hd
  have sp : ∀ vs H Q E, spT n (fun ts M Q => ∃ x, F x ts M Q) vs H Q E → ∃ x, spT n (F x) vs H Q E := fun vs H Q E ⟨h, G, M, ts, Qt, a, b, ⟨x, f⟩, e⟩ => ⟨x, h, G, M, ts, Qt, a, b, f, e⟩
  exact ⟨fd, ps, ⟨fun vs H Q E h => let ⟨x, h'⟩ := sp vs H Q E h; (fnT FD S hn (hbody x)).len vs H Q E h',
    fun A outer s H args us vs Q E hr he hb hv hs => let ⟨x, h'⟩ := sp vs H Q E hs; (fnT FD S hn (hbody x)).run A outer s H args us vs Q E hr he hb hv h'⟩, hb FD, FD.kp⟩
end
end Tr

set_option Elab.async false
set_option linter.all false
set_option maxRecDepth 100000
set_option maxHeartbeats 4000000
namespace Tr
open PySem PySem.Spec L2
section
variable {X : Cx}
/-- x == {}, x an empty dict that is solid -/
def trDicS : T → T → Mh → TQ → Prop := fun x y M Q => match x, y with
  | .dic [], .adr b => M b = some (.dic .un []) ∧ Q (.bl true) M
  | _, _ => False
theorem ot_eqDicS (hu : X.A.units < cLine) : OpT X (compareOp .Eq) trDicS := by
  refine ⟨⟨_, op_eq_dictA hu, fun G M H x y xv yv Q Qv S rx ry w k => ?_⟩, fun x y M Q Q' i w => ?_⟩
  · unfold trDicS at w
    split at w
    · rename_i b
      obtain ⟨us, h2, r2⟩ := (S.own b _ w.1).2
      unfold Rep at rx ry
      obtain ⟨a, vs, rfl, h1, r1⟩ := rx
      unfold RepK at r1 r2
      subst r1 r2 ry
      exact ⟨a, b, [], [], rfl, rfl, S.gh _ _ h1, h2, rfl, fun p hp => (nomatch hp), k.here S w.2 rep_bl⟩
    · cases w
  · unfold trDicS at w ⊢
    split at w
    · exact ⟨w.1, i _ _ w.2⟩
    · cases w
theorem qe_neg {i : Int} {j : Nat} {p pos : Pos} : QE X (.UnaryOp .USub (.Constant (.int i) j p) pos) (wC (.int (-i))) :=
  ⟨PEw (pe_un un_neg pe_int) fun σ H Q ⟨G, M, s, Qt, S, R, w, k⟩ => ⟨i, rfl, k _ M G H _ w (Ext.refl S) (by unfold Rep; rfl)⟩, fun s M Q Q' h w => h _ _ w⟩
theorem qe_cbase {k n : Nat} {F : TSpec} {p apos pos : Pos} {e : Expr} {es : List Expr} {u : WA} {pl : Sem Bool} (c : Fx X.K X.mg) (h : KpX X ("Card", some "__init__") k n F) (hr : Room k X.A) (ha : QA X (e :: es) u) (hg : Gl X "Card" := by rfl)
    (hst : starEach (e :: es) X.env = (false, eval e X.env) :: starEach es X.env := by rfl) (hpl : (backTo pos (starEach es X.env)).any (·.1) = false := by rfl)
    (ht : eval (.Call (.Attribute (.Name "Card" p) "__init__" apos) (e :: es) [] pos) X.env = (do
      let ov ← eval (.Name "Card" p) X.env
      standAt apos.atName
      let (f, first) ← holding [ov] (getMethod ov "__init__" pl)
      callWith pos f first (backTo pos (starEach (e :: es) X.env)) (backToKw pos (keywordEach [] X.env))) := by rfl) :
    QE X (.Call (.Attribute (.Name "Card" p) "__init__" apos) (e :: es) [] pos) (wFn n F u) := by
  obtain ⟨fd, ps, a, b, d⟩ := h.ex
  obtain ⟨b1, b2, b3⟩ := c.base
  exact qe_cfun a hr c.g_Card b1 b2 b3 b ha hg (by decide) hst hpl ht
end
/-! ### isinstance of built-in types -/
section
variable {K : PySem.W.Frag}
theorem kt_ii : PySem.W.kitOne K (.type "int") (.type "int") = some true := by rfl
theorem kt_ib : PySem.W.kitOne K (.type "int") (.type "bool") = some false := by rfl
theorem kt_ss : PySem.W.kitOne K (.type "str") (.type "str") = some true := by rfl
theorem ka_l : PySem.W.kitAny K (.type "list") [.type "list", .type "tuple"] = some true := by rfl
theorem ka_t : PySem.W.kitAny K (.type "tuple") [.type "list", .type "tuple"] = some true := by rfl
theorem nocls {n : String} {p : Addr → Prop} : ∀ C, Value.type n = .ref C → p C := fun C e => nomatch e
theorem onecls {C : Addr} (h : InsTy K C) : ∀ D, Value.ref C = .ref D → InsTy K D := fun D e => by cases e; exact h
end
/-- a spec that a relation of arguments and result gives -/
def FR (R : List T → T → Prop) : TSpec := fun ts M Q => ∃ t, R ts t ∧ Q t M
theorem cl_R {R : List T → T → Prop} {ts : List T} {M : Mh} {Q : TQ} {t : T} (h : R ts t) (q : Q t M) : cl (FR R) ts M Q := cl_of ⟨t, h, q⟩
/-- a spec of an __init__: of the other arguments, the fields -/
def FI (C : Addr) (R : List T → List (Str × T) → Prop) : TSpec := fun ts M Q => ∃ a args fs, ts = .adr a :: args ∧ M a = some (.ins C []) ∧ R args fs ∧ Q .non (mset M a (.ins C fs))
/-- the new instance, solid -/
theorem new_sealed {C : Addr} {n : Nat} {R : List T → List (Str × T) → Prop} {u : WA} {s : TSt} {M : Mh} {Q : TQ} (h : u s M fun args M1 => args.length + 1 = n ∧ ∃ fs, R args fs ∧ Q (.ins C fs) M1)
    (hu : ∀ s M Q Q', (∀ r M', Q r M' → Q' r M') → u s M Q → u s M Q') : wSeal (wMake C n (FI C R) u) s M Q := by
  refine hu s M _ _ (fun args M1 ⟨hl, fs, hR, q⟩ => ⟨hl, fun x hx => cl_of ⟨x, args, fs, rfl, mset_same, hR, rfl, ?_⟩⟩) h
  show sealO Q (mset (mset M1 x (.ins C [])) x (.ins C fs)) x (mset (mset M1 x (.ins C [])) x (.ins C fs) x)
  rw [mset_same, mset_set]
  show Q (.ins C fs) (mdel (mset M1 x (.ins C fs)) x)
  rw [mdel_set hx]
  exact q
/-- `C(..)` made and solid, by its reading alone -/
def wObj (C : Addr) (n : Nat) (R : List T → List (Str × T) → Prop) (u : WA) : WE := fun s M Q => u s M fun args M1 => args.length + 1 = n ∧ ∃ fs, R args fs ∧ Q (.ins C fs) M1
theorem qe_obj {X : Cx} {k n : Nat} {C : Addr} {R : List T → List (Str × T) → Prop} {x : Str} {p pos : Pos} {e : Expr} {es : List Expr} {u : WA} (eC : C = He.ga X.K x) (Mx : Mk X.K (He.ga X.K x) (He.ma X.K (He.ga X.K x) "__init__")) (h : KpX X (x, some "__init__") k n (FI C R)) (hr : Room (k + 1) X.A)
    (hm : X.mg x = some (.ref (He.ga X.K x))) (ha : QA X (e :: es) u) (hg : Gl X x := by rfl) (hdb : (x == ("__debug__" : Str)) = false := by decide)
    (he : starEach (e :: es) X.env = (false, eval e X.env) :: starEach es X.env := by rfl) (hpl : (backTo pos (starEach es X.env)).any (·.1) = false := by rfl) : QE X (.Call (.Name x p) (e :: es) [] pos) (wObj C n R u) := by
  subst eC
  have q := qe_seal (qe_new (p := p) Mx h hr hm ha hg hdb he hpl)
  exact ⟨PEw q.pe fun σ H Q ⟨G, M, s, Qt, S, Rs, z, k⟩ => ⟨G, M, s, Qt, S, Rs, new_sealed z ha.mono, k⟩, fun s M Q Q' i z => ha.mono s M _ _ (fun args M1 ⟨a, fs, b, q⟩ => ⟨a, fs, b, i _ _ q⟩) z⟩
/-! ### comprehensions without effect -/
theorem take_next {α : Type} {xs : List α} {k : Nat} {x : α} (h : xs[k]? = some x) : xs.take (k + 1) = xs.take k ++ [x] := by
  rw [List.take_add_one, h]; rfl
theorem lc_filt {vs : List Nat} {bd : BindT} {tt : WT} {te : WE} {s : TSt} {ts : List T} {keep : Mh → Prop} {M1 : Mh} {Q : TQ} (p : T → Bool) (g : T → T) (hk : keep M1) (hz : ts.length < 100000)
    (h : ∀ t ∈ ts, ∃ b, bd t = some b ∧ (∀ Q' : Bool → Mh → Prop, Q' (p t) M1 → tt (setsT (twipe s vs) b) M1 Q') ∧ (p t = true → ∀ Q' : TQ, Q' (g t) M1 → te (setsT (twipe s vs) b) M1 Q')) (q : Q (.lst ((ts.filter p).map g)) M1) :
    lcI vs bd tt te s ts keep M1 Q := by
  refine ⟨fun k acc M' => M' = M1 ∧ acc = ((ts.take k).filter p).map g, ⟨rfl, rfl⟩, fun k acc M' e => by rw [e.1]; exact hk, fun k acc M' t et ⟨e1, e2⟩ => ?_, fun acc M' ⟨e1, e2⟩ => ?_⟩
  · subst e1 e2
    obtain ⟨b, hb, h1, h2⟩ := h t (List.mem_of_getElem? et)
    refine ⟨b, hb, h1 _ ⟨fun e => h2 e _ ⟨?_, rfl, ?_⟩, fun e => ⟨rfl, ?_⟩⟩⟩
    · rw [List.length_map]
      refine Nat.lt_of_le_of_lt (List.length_filter_le _ _) ?_
      rw [List.length_take]
      omega
    · rw [take_next et, List.filter_append, List.map_append, List.filter_cons, if_pos e]; rfl
    · rw [take_next et, List.filter_append, List.filter_cons, if_neg (by rw [e]; exact Bool.false_ne_true), List.filter_nil, List.append_nil]
  · subst e1 e2
    rw [List.take_length]
    exact q
theorem filter_true {α : Type} (l : List α) : l.filter (fun _ => true) = l := by
  induction l with
  | nil => rfl
  | cons x l ih => rw [List.filter_cons, if_pos rfl, ih]
theorem lc_map {vs : List Nat} {bd : BindT} {te : WE} {s : TSt} {ts : List T} {keep : Mh → Prop} {M1 : Mh} {Q : TQ} (g : T → T) (hk : keep M1) (hz : ts.length < 100000)
    (h : ∀ t ∈ ts, ∃ b, bd t = some b ∧ ∀ Q' : TQ, Q' (g t) M1 → te (setsT (twipe s vs) b) M1 Q') (q : Q (.lst (ts.map g)) M1) : lcI vs bd wYes te s ts keep M1 Q :=
  lc_filt (fun _ => true) g hk hz (fun t ht => let ⟨b, hb, f⟩ := h t ht; ⟨b, hb, fun Q' z => z, fun _ => f⟩) (by rw [filter_true]; exact q)
/-! ### methods, the room apart -/
structure MethK (P : Program) (w : World) (K : PySem.W.Frag) (mg : Str → Option Value) (base : Heap) (C : Addr) (m : Str) (k n : Nat) (F : TSpec) : Prop where
  ex : ∃ (f : Addr) (fd : FuncData) (ps : List Str), Cls K C ∧ Meth K C m f ∧ FnOk P w K mg base CX0 k f fd ps (spT n F) ∧ Binds K fd ps []
theorem MethK.ok {X : Cx} {C : Addr} {m : Str} {k n : Nat} {F : TSpec} (h : MethK X.prog X.w X.K X.mg X.base C m k n F) (hr : Room k X.A) : MethOk X C m n F :=
  let ⟨f, fd, ps, a, b, d, e⟩ := h.ex
  ⟨f, fd, ps, k, a, b, d, hr, e⟩
section
variable {P : Program} {w : World} {K : PySem.W.Frag} {mg : Str → Option Value} {base : Heap} {k n : Nat} {F : TSpec}
theorem MethK.mono {C : Addr} {m : Str} {j : Nat} (h : MethK P w K mg base C m j n F) (l : j ≤ k) : MethK P w K mg base C m k n F :=
  let ⟨f, fd, ps, a, b, d, e⟩ := h.ex
  ⟨f, fd, ps, a, b, d.mono l, e⟩
theorem methK {C m : Str} (c : Cls K (He.ga K C)) (hm : Meth K (He.ga K C) m (He.ma K (He.ga K C) m)) (h : Kp P w K mg base (C, some m) k n F) : MethK P w K mg base (He.ga K C) m k n F :=
  let ⟨fd, ps, a, b, _⟩ := h.ex
  ⟨_, fd, ps, c, hm, a, b⟩
theorem methKB {C B m : Str} (c : Cls K (He.ga K C)) (hm : Meth K (He.ga K C) m (He.ma K (He.ga K C) m)) (e : He.ma K (He.ga K C) m = He.ma K (He.ga K B) m) (h : Kp P w K mg base (B, some m) k n F) : MethK P w K mg base (He.ga K C) m k n F := by
  obtain ⟨fd, ps, a, b, _⟩ := h.ex
  rw [e] at hm
  exact ⟨_, fd, ps, c, hm, a, b⟩
end
/-- a def with defaults, all of its arguments given -/
theorem binds_all {K : PySem.W.Frag} {x qual : Str} {params : Arguments} {body : List Stmt} {scope : Scope} {dvs : List V} {f : Addr} {fd : FuncData} {ps : List Str} (F : FunD K x qual params body scope dvs [] f fd) (hd : dvs ≠ [])
    (h : ∀ (T : Addr) (kV doc pm : Value) (an : Option Addr) (cdv ct : Value) (us its : List Value), us.length = ps.length → its.length = dvs.length →
      ∃ k, bindArgs (PySem.W.fnOf x qual params body scope (.ref T) kV doc pm an cdv ct) ⟨us, []⟩ = seqItems? (.ref T) >>= k ∧ k (some its.toArray) = pure (ps.zip us)) : Binds K fd ps [] := by
  obtain ⟨ds, r, b⟩ := FunD.binds1 (ps := ps) F ps.length dvs.length hd (by omega) fun T kV doc pm an cdv ct us its h1 h2 => by
    rw [List.drop_of_length_le (Nat.le_of_eq h2), List.append_nil]
    exact h T kV doc pm an cdv ct us its h1 h2
  rw [List.drop_length] at r
  cases r
  exact b
theorem kT {M : Mh} : keepT M := trivial
theorem yes {b : Bool} {A B : Prop} (h : b = true) (a : A) : (b = true → A) ∧ (b = false → B) := ⟨fun _ => a, fun z => absurd (h.symm.trans z) (by decide)⟩
theorem no {b : Bool} {A B : Prop} (h : b = false) (x : B) : (b = true → A) ∧ (b = false → B) := ⟨fun z => absurd (h.symm.trans z) (by decide), fun _ => x⟩
theorem yesd {p : Prop} [Decidable p] {A B : Prop} (h : p) (a : A) : (decide p = true → A) ∧ (decide p = false → B) := yes (decide_eq_true h) a
theorem nod {p : Prop} [Decidable p] {A B : Prop} (h : ¬ p) (x : B) : (decide p = true → A) ∧ (decide p = false → B) := no (decide_eq_false h) x
theorem yesn {p : Prop} [Decidable p] {A B : Prop} (h : ¬ p) (a : A) : ((!decide p) = true → A) ∧ ((!decide p) = false → B) := yes (by rw [decide_eq_false h]; rfl) a
theorem non {p : Prop} [Decidable p] {A B : Prop} (h : p) (x : B) : ((!decide p) = true → A) ∧ ((!decide p) = false → B) := no (by rw [decide_eq_true h]; rfl) x
end Tr

set_option Elab.async false
set_option linter.all false
set_option maxRecDepth 100000
set_option maxHeartbeats 4000000
/-! The readings that look at an owned object, asked by equations. -/
namespace Tr
open PySem L2
abbrev MonoE (w : WE) : Prop := ∀ s M Q Q', (∀ r M', Q r M' → Q' r M') → w s M Q → w s M Q'
section
variable {X : Cx}
theorem QE.weak {e : Expr} {w w' : WE} (h : QE X e w) (i : ∀ s M Q, w' s M Q → w s M Q) (m : MonoE w') : QE X e w' :=
  ⟨PEw h.pe fun σ H Q ⟨G, M, s, Qt, S, R, z, k⟩ => ⟨G, M, s, Qt, S, R, i _ _ _ z, k⟩, m⟩
theorem QS.weak {e : Stmt} {w w' : WS} (h : QS X e w) (i : ∀ D s M, w' D s M → w D s M) (m : ∀ D D' s M, EndsI D D' → w' D s M → w' D' s M) : QS X e w' :=
  ⟨PSw h.ps fun D σ H ⟨G, M, s, DT, S, R, z, k⟩ => ⟨G, M, s, DT, S, R, i _ _ _ z, k⟩, m⟩
/-! ### attributes -/
structure fldG (K : PySem.W.Frag) (M : Mh) (t : T) (f : Str) (N : T → Prop) : Prop where
  ex : ∃ C fs u, view M t = some (.ins C fs) ∧ Cls K C ∧ NoAttr K C f ∧ fs.lookup f = some u ∧ N u
def wFldx (K : PySem.W.Frag) (w : WE) (f : Str) : WE := fun s M Q => w s M fun t M1 => fldG K M1 t f fun u => Q u M1
theorem qe_fldx {e : Expr} {w : WE} {f : Str} {pos : Pos} (h : QE X e w) (hb : attributeBase e f X.env (eval e X.env) = eval e X.env := by rfl) : QE X (.Attribute e f pos) (wFldx X.K w f) := by
  refine (qe_fld h hb).weak (fun s M Q z => h.mono s M _ _ (fun t M1 ⟨C, fs, u, e, c, n, l, q⟩ => ?_) z) fun s M Q Q' i z => h.mono s M _ _ (fun t M1 ⟨C, fs, u, e, c, n, l, q⟩ => ⟨C, fs, u, e, c, n, l, i _ _ q⟩) z
  rw [e]
  dsimp only
  rw [l]
  exact ⟨c, n, q⟩
structure fldS (K : PySem.W.Frag) (M : Mh) (x : T) (f : Str) (t : T) (N : Mh → Prop) : Prop where
  ex : ∃ a C fs, x = .adr a ∧ M a = some (.ins C fs) ∧ Cls K C ∧ NoAttr K C f ∧ fs.length < 1000 ∧ N (mset M a (.ins C (putT f t fs)))
def wFldSx (K : PySem.W.Frag) (wo wv : WE) (f : Str) : WS := fun D s M => wv s M fun t M1 => wo s M1 fun x M2 => fldS K M2 x f t fun M3 => D.nx s M3
theorem qs_fldx {o e : Expr} {wo wv : WE} {f : Str} {pos pos' : Pos} (ho : QE X o wo) (hv : QE X e wv) (hs : swapsWith e (some (.Attribute o f pos')) pos.line X.env = pure false := by rfl) : QS X (.Assign [.Attribute o f pos'] e pos) (wFldSx X.K wo wv f) := by
  refine (qs_fld ho hv hs).weak (fun D s M z => hv.mono s M _ _ (fun t M1 q => ho.mono s M1 _ _ (fun x M2 ⟨a, C, fs, e1, e2, c, n, l, q⟩ => ?_) q) z) fun D D' s M i z => hv.mono s M _ _ (fun t M1 q => ho.mono s M1 _ _ (fun x M2 ⟨a, C, fs, e1, e2, c, n, l, q⟩ => ⟨a, C, fs, e1, e2, c, n, l, i.nx _ _ q⟩) q) z
  subst e1
  unfold fldW
  dsimp only
  rw [e2]
  exact ⟨c, n, l, q⟩
/-! ### dicts -/
structure dgI (M : Mh) (x y : T) (N : Option T → Prop) : Prop where
  ex : ∃ lk kvs k, view M x = some (.dic lk kvs) ∧ keyT y = some k ∧ N (kget k kvs)
theorem dgI.w {M : Mh} {x y : T} {N : Option T → Prop} (h : dgI M x y N) : dgetW M x y N := by
  obtain ⟨lk, kvs, k, e1, e2, n⟩ := h
  unfold dgetW
  rw [e1, e2]
  exact n
def isSomeT (o : Option T) (N : T → Prop) : Prop := ∃ t, o = some t ∧ N t
def wDGetx (wd wk : WE) : WE := fun s M Q => wd s M fun d M1 => wk s M1 fun y M2 => dgI M2 d y fun o => isSomeT o fun t => Q t M2
theorem qe_dgetx {o i : Expr} {wd wk : WE} {pos : Pos} (hu : X.A.units + 1 < cLine) (hd : QE X o wd) (hk : QE X i wk) (hs : NoSl i := by intro _ _; rfl) : QE X (.Subscript o i pos) (wDGetx wd wk) := by
  refine (qe_dget hu hd hk hs).weak (fun s M Q z => hd.mono s M _ _ (fun d M1 q => hk.mono s M1 _ _ (fun y M2 q2 => dgetW_mono (fun o ⟨t, e, n⟩ => by subst e; exact n) q2.w) q) z)
    fun s M Q Q' i z => hd.mono s M _ _ (fun d M1 q => hk.mono s M1 _ _ (fun y M2 ⟨lk, kvs, k, e1, e2, t, e3, n⟩ => ⟨lk, kvs, k, e1, e2, t, e3, i _ _ n⟩) q) z
def wDInx (g : Bool → Bool) (wk wd : WE) : WE := fun s M Q => wk s M fun y M1 => wd s M1 fun d M2 => dgI M2 d y fun o => Q (.bl (g o.isSome)) M2
theorem dinx {g : Bool → Bool} {e i o : Expr} {wk wd : WE} (h : QE X e (wDIn g wk wd)) (hk : QE X i wk) (hd : QE X o wd) : QE X e (wDInx g wk wd) :=
  h.weak (fun s M Q z => hk.mono s M _ _ (fun y M1 q => hd.mono s M1 _ _ (fun d M2 q2 => q2.w) q) z) fun s M Q Q' i z => hk.mono s M _ _ (fun y M1 q => hd.mono s M1 _ _ (fun d M2 ⟨lk, kvs, k, e1, e2, n⟩ => ⟨lk, kvs, k, e1, e2, i _ _ n⟩) q) z
theorem qe_dinx {o i : Expr} {wd wk : WE} {pos : Pos} (hu : X.A.units + 1 < cLine) (hk : QE X i wk) (hd : QE X o wd) (hm : behindInMarks .In o = false := by rfl) : QE X (.Compare i [.In] [o] pos) (wDInx id wk wd) := dinx (qe_din hu hk hd hm) hk hd
theorem qe_dnotinx {o i : Expr} {wd wk : WE} {pos : Pos} (hu : X.A.units + 1 < cLine) (hk : QE X i wk) (hd : QE X o wd) (hm : behindInMarks .NotIn o = false := by rfl) : QE X (.Compare i [.NotIn] [o] pos) (wDInx not wk wd) := dinx (qe_dnotin hu hk hd hm) hk hd
theorem QT.weak {e : Expr} {w w' : WT} (h : QT X e w) (i : ∀ s M Q, w' s M Q → w s M Q) (m : ∀ s M Q Q', (∀ r M', Q r M' → Q' r M') → w' s M Q → w' s M Q') : QT X e w' :=
  ⟨PTw' h.pt fun σ H Q ⟨G, M, s, Qt, S, R, z, k⟩ => ⟨G, M, s, Qt, S, R, i _ _ _ z, k⟩, m⟩
theorem tdinx {g : Bool → Bool} {e i o : Expr} {wk wd : WE} (h : QT X e (wTest (wDIn g wk wd))) (hk : QE X i wk) (hd : QE X o wd) : QT X e (wTest (wDInx g wk wd)) :=
  h.weak (fun s M Q z => hk.mono s M _ _ (fun y M1 q => hd.mono s M1 _ _ (fun d M2 q2 => q2.w) q) z) fun s M Q Q' i z => hk.mono s M _ _ (fun y M1 q => hd.mono s M1 _ _ (fun d M2 ⟨lk, kvs, k, e1, e2, n⟩ => ⟨lk, kvs, k, e1, e2, i _ _ n⟩) q) z
theorem qt_dinx {o i : Expr} {wd wk : WE} {pos : Pos} (hu : X.A.units + 1 < cLine) (hk : QE X i wk) (hd : QE X o wd) (hm : behindInMarks .In o = false := by rfl) : QT X (.Compare i [.In] [o] pos) (wTest (wDInx id wk wd)) := tdinx (qt_din hu hk hd hm) hk hd
theorem qt_dnotinx {o i : Expr} {wd wk : WE} {pos : Pos} (hu : X.A.units + 1 < cLine) (hk : QE X i wk) (hd : QE X o wd) (hm : behindInMarks .NotIn o = false := by rfl) : QT X (.Compare i [.NotIn] [o] pos) (wTest (wDInx not wk wd)) := tdinx (qt_dnotin hu hk hd hm) hk hd
structure dpI (M : Mh) (d y t : T) (N : Mh → Prop) : Prop where
  ex : ∃ a kvs k, d = .adr a ∧ M a = some (.dic .un kvs) ∧ keyT y = some k ∧ kvs.length < 100000 ∧ N (mset M a (.dic .un (kput k t kvs)))
def wDPutx (wd wk wv : WE) : WS := fun D s M => wv s M fun t M1 => wd s M1 fun d M2 => wk s M2 fun y M3 => dpI M3 d y t fun M4 => D.nx s M4
theorem qs_dputx {o i e : Expr} {wd wk wv : WE} {pos pos' : Pos} (hu : X.A.units + 1 < cLine) (hd : QE X o wd) (hk : QE X i wk) (hv : QE X e wv) (hs : swapsWith e (some (.Subscript o i pos')) pos.line X.env = pure false := by rfl) :
    QS X (.Assign [.Subscript o i pos'] e pos) (wDPutx wd wk wv) := by
  refine (qs_dput hu hd hk hv hs).weak (fun D s M z => hv.mono s M _ _ (fun t M1 q => hd.mono s M1 _ _ (fun d M2 q2 => hk.mono s M2 _ _ (fun y M3 ⟨a, kvs, k, e1, e2, e3, l, n⟩ => ?_) q2) q) z)
    fun D D' s M i z => hv.mono s M _ _ (fun t M1 q => hd.mono s M1 _ _ (fun d M2 q2 => hk.mono s M2 _ _ (fun y M3 ⟨a, kvs, k, e1, e2, e3, l, n⟩ => ⟨a, kvs, k, e1, e2, e3, l, i.nx _ _ n⟩) q2) q) z
  subst e1
  unfold dputW
  rw [e3]
  dsimp only
  rw [e2]
  exact ⟨l, n⟩
/-! ### sealing -/
structure slI (M : Mh) (t : T) (Q : TQ) : Prop where
  ex : ∃ l o, t = .adr l ∧ M l = some o ∧ (match o with | .lst _ => True | .ins _ _ => True | .dic .un _ => True | _ => False) ∧ Q (sealT o) (mdel M l)
def wSealx (w : WE) : WE := fun s M Q => w s M fun t M1 => slI M1 t Q
theorem slI.w {M : Mh} {t : T} {Q : TQ} (h : slI M t Q) : sealW t M Q := by
  obtain ⟨l, o, e1, e2, m, q⟩ := h
  subst e1
  show sealO Q M l (M l)
  rw [e2]
  cases o with
  | lst xs => exact q
  | ins C fs => exact q
  | dic lk kvs =>
    cases lk with
    | un => exact q
    | so => cases m
    | lk _ _ => cases m
  | tup xs => cases m
theorem qe_sealx {e : Expr} {w : WE} (h : QE X e w) : QE X e (wSealx w) :=
  (qe_seal h).weak (fun s M Q z => h.mono s M _ _ (fun t M1 q => q.w) z) fun s M Q Q' i z => h.mono s M _ _ (fun t M1 ⟨l, o, e1, e2, m, q⟩ => ⟨l, o, e1, e2, m, i _ _ q⟩) z
/-! ### lists -/
structure owI (M : Mh) (x : T) (N : Addr → List T → Prop) : Prop where
  ex : ∃ l xs, x = .adr l ∧ M l = some (.lst xs) ∧ N l xs
theorem owI.w {M : Mh} {x : T} {N : Addr → List T → Prop} (h : owI M x N) : ownL M x N := by
  obtain ⟨l, xs, e1, e2, n⟩ := h
  subst e1
  exact ownL_of e2 n
def wAppx (wo : WE) (wa : WA) : WE := fun s M Q => wo s M fun x M1 => (owI M1 x fun _ _ => True) ∧ wa s M1 fun ts M2 => one1 ts fun t => owI M2 x fun l xs => xs.length < 100000 ∧ Q .non (mset M2 l (.lst (xs ++ [t])))
theorem qe_appendx {o e : Expr} {wo : WE} {wa : WA} {apos cpos : Pos} (ho : QE X o wo) (ha : QA X [e] wa) (hbase : attributeBase o "append" X.env (eval o X.env) = eval o X.env := by rfl)
    (hfew : ((backTo cpos (starEach [e] X.env)).all (fun x => !x.1) && (backToKw cpos (keywordEach [] X.env)).all (fun x => x.1.isSome)
      && decide (([e] : List Expr).length + ([] : List Keyword).length + (if ([] : List Keyword).isEmpty then 0 else 1) < 30)) = true := by rfl)
    (hline : (apos.endLine == cpos.line) = true := by rfl) (hs : starEach [e] X.env = (false, eval e X.env) :: starEach [] X.env := by rfl) (hplain : (backTo cpos (starEach [] X.env)).any (·.1) = false := by rfl) :
    QE X (.Call (.Attribute o "append" apos) [e] [] cpos) (wAppx wo wa) :=
  (qe_append ho ha hbase hfew hline hs hplain).weak (fun s M Q z => ho.mono s M _ _ (fun x M1 ⟨q0, q⟩ => ⟨q0.w, ha.mono s M1 _ _ (fun ts M2 q2 => one1_mono (fun t q3 => q3.w) q2) q⟩) z)
    fun s M Q Q' i z => ho.mono s M _ _ (fun x M1 ⟨q0, q⟩ => ⟨q0, ha.mono s M1 _ _ (fun ts M2 q2 => one1_mono (fun t ⟨l, xs, e1, e2, h, n⟩ => ⟨l, xs, e1, e2, h, i _ _ n⟩) q2) q⟩) z
def wExtdx (wo : WE) (wa : WA) : WE := fun s M Q => wo s M fun x M1 => (owI M1 x fun _ _ => True) ∧ wa s M1 fun ts M2 => one1 ts fun t => owI M2 x fun l xs => ∃ zs, view M2 t = some (.lst zs) ∧ xs.length + zs.length < 100000 ∧ Q .non (mset M2 l (.lst (xs ++ zs)))
theorem qe_extendx {o e : Expr} {wo : WE} {wa : WA} {apos cpos : Pos} (ho : QE X o wo) (ha : QA X [e] wa) (hbase : attributeBase o "extend" X.env (eval o X.env) = eval o X.env := by rfl)
    (hfew : ((backTo cpos (starEach [e] X.env)).all (fun x => !x.1) && (backToKw cpos (keywordEach [] X.env)).all (fun x => x.1.isSome)
      && decide (([e] : List Expr).length + ([] : List Keyword).length + (if ([] : List Keyword).isEmpty then 0 else 1) < 30)) = true := by rfl)
    (hline : (apos.endLine == cpos.line) = true := by rfl) (hs : starEach [e] X.env = (false, eval e X.env) :: starEach [] X.env := by rfl) (hplain : (backTo cpos (starEach [] X.env)).any (·.1) = false := by rfl) :
    QE X (.Call (.Attribute o "extend" apos) [e] [] cpos) (wExtdx wo wa) :=
  (qe_extend ho ha hbase hfew hline hs hplain).weak (fun s M Q z => ho.mono s M _ _ (fun x M1 ⟨q0, q⟩ => ⟨q0.w, ha.mono s M1 _ _ (fun ts M2 q2 => one1_mono (fun t q3 => q3.w) q2) q⟩) z)
    fun s M Q Q' i z => ho.mono s M _ _ (fun x M1 ⟨q0, q⟩ => ⟨q0, ha.mono s M1 _ _ (fun ts M2 q2 => one1_mono (fun t ⟨l, xs, e1, e2, zs, h1, h2, n⟩ => ⟨l, xs, e1, e2, zs, h1, h2, i _ _ n⟩) q2) q⟩) z
/-- at a place of a list or a tuple -/
def trIxx : T → T → Mh → TQ → Prop := fun x y M Q => ∃ xs i t, (view M x = some (.lst xs) ∨ view M x = some (.tup xs)) ∧ y = .int i ∧ tget xs i = some t ∧ Q t M
theorem it_seqx : IxT X trIxx := by
  obtain ⟨⟨r, h1, h2⟩, hm⟩ := it_seq (X := X)
  refine ⟨⟨r, h1, fun G M H x y xv yv Q Qv S rx ry ⟨xs, i, t, e, ey, et, q⟩ k => h2 G M H x y xv yv Q Qv S rx ry ?_ k⟩, fun x y M Q Q' i ⟨xs, j, t, e, ey, et, q⟩ => ⟨xs, j, t, e, ey, et, i _ _ q⟩⟩
  subst ey
  unfold trIx
  rcases e with e | e
  · rw [e]
    dsimp only
    rw [et]
    exact q
  · rw [e]
    dsimp only
    rw [et]
    exact q
/-- xs[i] = .. -/
structure stI (M : Mh) (x y t : T) (N : Mh → Prop) : Prop where
  ex : ∃ l xs i, x = .adr l ∧ M l = some (.lst xs) ∧ y = .int i ∧ 0 ≤ i ∧ i.toNat < xs.length ∧ N (mset M l (.lst (xs.set i.toNat t)))
theorem stI.w {M : Mh} {x y t : T} {N : Mh → Prop} (h : stI M x y t N) : setW M x y t N := by
  obtain ⟨l, xs, i, e1, e2, e3, a, b, n⟩ := h
  subst e1 e3
  unfold setW
  dsimp only
  rw [e2]
  exact ⟨a, b, n⟩
def wgSubx (wo wi : WE) : WG := fun t s M Q => wo s M fun o M1 => wi s M1 fun i M2 => stI M2 o i t fun M3 => Q s M3
theorem qg_subx {o i : Expr} {wo wi : WE} {pos : Pos} (ho : QE X o wo) (hi : QE X i wi) (ha : ∀ v, assign (.Subscript o i pos) X.env v = (do let ov ← holding [v] (eval o X.env); let iv ← holding [v, ov] (eval i X.env); standAt pos; holding [v, ov, iv] (setItem ov iv v); release [v, ov, iv] []) := by intros; rfl) : QG X (.Subscript o i pos) (wgSubx wo wi) :=
  ⟨PGw (qg_sub ho hi ha).pg fun v σ H Q ⟨G, M, s, t, Qt, S, R, r, z, k⟩ => ⟨G, M, s, t, Qt, S, R, r, ho.mono s M _ _ (fun x M1 q => hi.mono s M1 _ _ (fun y M2 q2 => q2.w) q) z, k⟩,
    fun t s M Q Q' i z => ho.mono s M _ _ (fun x M1 q => hi.mono s M1 _ _ (fun y M2 ⟨l, xs, j, e1, e2, e3, a, b, n⟩ => ⟨l, xs, j, e1, e2, e3, a, b, i _ _ n⟩) q) z⟩
/-! ### calls that look at owned objects -/
theorem CaT.weak {f : Value} {TR TR' : List T → Mh → TQ → Prop} (h : CaT X f TR) (i : ∀ ts M Q, TR' ts M Q → TR ts M Q) (m : ∀ ts M Q Q', (∀ r M', Q r M' → Q' r M') → TR' ts M Q → TR' ts M Q') : CaT X f TR' := by
  obtain ⟨⟨r, h1, h2⟩, hm⟩ := h
  exact ⟨⟨r, h1, fun G M H ts vs Q Qv S rs z k => h2 G M H ts vs Q Qv S rs (i _ _ _ z) k⟩, m⟩
def vw (f : List (Key × T) → Mh → TQ → Prop) : List T → Mh → TQ → Prop := fun ts M Q => ∃ t lk kvs, ts = [t] ∧ view M t = some (.dic lk kvs) ∧ f kvs M Q
theorem vw_mono {f : List (Key × T) → Mh → TQ → Prop} (hf : ∀ kvs M Q Q', (∀ r M', Q r M' → Q' r M') → f kvs M Q → f kvs M Q') : ∀ ts M Q Q', (∀ r M', Q r M' → Q' r M') → vw f ts M Q → vw f ts M Q' := fun ts M Q Q' i ⟨t, lk, kvs, e, v, z⟩ => ⟨t, lk, kvs, e, v, hf _ _ _ _ i z⟩
theorem ct_listDx (hc : X.calm = true) : CaT X (.type "list") (vw fun kvs M Q => Q (.lst ((kvs.map (·.1)).map keyV)) M) :=
  (ct_listD hc).weak (fun ts M Q ⟨t, lk, kvs, e, v, z⟩ => by
    subst e
    show trListD t M Q
    unfold trListD
    rw [v]
    exact z) (vw_mono fun kvs M Q Q' i z => i _ _ z)
theorem ct_sortDx (hc : X.calm = true) : CaT X (.builtin "sorted") (vw fun kvs M Q => ∃ ks : List Str, kvs.map (·.1) = ks.map Sum.inr ∧ ks.length < 64 ∧ ∀ ms : List Str, ms.Perm ks → PyProof.Rows.sortedS ms = true → Q (.lst (ms.map T.str)) M) :=
  (ct_sortD hc).weak (fun ts M Q ⟨t, lk, kvs, e, v, z⟩ => by
    subst e
    show trSortD t M Q
    unfold trSortD
    rw [v]
    exact z) (vw_mono fun kvs M Q Q' i ⟨ks, a, b, z⟩ => ⟨ks, a, b, fun ms p q => i _ _ (z ms p q)⟩)
theorem ct_dictDx : CaT X (.type "dict") (vw fun kvs M Q => ∀ l, M l = none → Q (.adr l) (mset M l (.dic .un kvs))) :=
  ct_dictD.weak (fun ts M Q ⟨t, lk, kvs, e, v, z⟩ => by
    subst e
    show trDictD t M Q
    unfold trDictD
    rw [v]
    exact z) (vw_mono fun kvs M Q Q' i z => fun l hl => i _ _ (z l hl))
theorem ct_lenDx : CaT X (.builtin "len") (fun ts M Q => ∃ a kvs, ts = [.adr a] ∧ M a = some (.dic .un kvs) ∧ Q (.int (kvs.length : Nat)) M) :=
  ct_lenD.weak (fun ts M Q ⟨a, kvs, e, v, z⟩ => by
    subst e
    show trLenD (.adr a) M Q
    unfold trLenD
    dsimp only
    rw [v]
    exact z) fun ts M Q Q' i ⟨a, kvs, e, v, z⟩ => ⟨a, kvs, e, v, i _ _ z⟩
/-! ### methods -/
structure mtI (Cs : Addr → Prop) (m : Str) (o : Option OO) (N : Prop) : Prop where
  ex : ∃ C fs, o = some (.ins C fs) ∧ Cs C ∧ fs.lookup m = none ∧ N
theorem mtI.w {Cs : Addr → Prop} {m : Str} {o : Option OO} {N : Prop} (h : mtI Cs m o N) : methW Cs m N o := by
  obtain ⟨C, fs, e, a, b, n⟩ := h
  subst e
  exact ⟨a, b, n⟩
def wMethx (Cs : Addr → Prop) (m : Str) (n : Nat) (F : TSpec) (wo : WE) (u : WA) : WE := fun s M Q => wo s M fun t M1 => mtI Cs m (view M1 t) (u s M1 fun ts M2 => ts.length + 1 = n ∧ cl F (t :: ts) M2 Q)
theorem wMethx_mono {Cs : Addr → Prop} {m : Str} {n : Nat} {F : TSpec} {wo : WE} {u : WA} (ho : MonoE wo) (hu : ∀ s M Q Q', (∀ r M', Q r M' → Q' r M') → u s M Q → u s M Q') : MonoE (wMethx Cs m n F wo u) :=
  fun s M Q Q' i z => ho s M _ _ (fun t M1 ⟨C, fs, e, a, b, q⟩ => ⟨C, fs, e, a, b, hu s M1 _ _ (fun ts M2 q2 => ⟨q2.1, cl_mono i q2.2⟩) q⟩) z
theorem qe_methx {Cs : Addr → Prop} {m : Str} {n : Nat} {F : TSpec} {o e : Expr} {es : List Expr} {wo : WE} {u : WA} {apos pos : Pos} {pl : Sem Bool} (hOk : ∀ C, Cs C → MethOk X C m n F) (he : QE X o wo) (ha : QA X (e :: es) u)
    (hst : starEach (e :: es) X.env = (false, eval e X.env) :: starEach es X.env := by rfl) (hpl : (backTo pos (starEach es X.env)).any (·.1) = false := by rfl)
    (ht : eval (.Call (.Attribute o m apos) (e :: es) [] pos) X.env = (do
      let ov ← eval o X.env
      standAt apos.atName
      let (f, first) ← holding [ov] (getMethod ov m pl)
      callWith pos f first (backTo pos (starEach (e :: es) X.env)) (backToKw pos (keywordEach [] X.env))) := by rfl) :
    QE X (.Call (.Attribute o m apos) (e :: es) [] pos) (wMethx Cs m n F wo u) :=
  (qe_meth (pl := pl) hOk he ha hst hpl ht).weak (fun s M Q z => he.mono s M _ _ (fun t M1 q => q.w) z) (wMethx_mono he.mono ha.mono)
theorem qe_meth0x {Cs : Addr → Prop} {m : Str} {n : Nat} {F : TSpec} {o : Expr} {wo : WE} {apos pos : Pos} {pl : Sem Bool} (hOk : ∀ C, Cs C → MethOk X C m n F) (he : QE X o wo)
    (ht : eval (.Call (.Attribute o m apos) [] [] pos) X.env = (do
      let ov ← eval o X.env
      standAt apos.atName
      let (f, first) ← holding [ov] (getMethod ov m pl)
      callWith pos f first (backTo pos (starEach [] X.env)) (backToKw pos (keywordEach [] X.env))) := by rfl) :
    QE X (.Call (.Attribute o m apos) [] [] pos) (wMethx Cs m n F wo wNil) :=
  (qe_meth0 (pl := pl) hOk he ht).weak (fun s M Q z => he.mono s M _ _ (fun t M1 q => q.w) z) (wMethx_mono he.mono (qa_nil (X := X)).mono)
/-- the same, the written part said (a comprehension's reading may not name its block) -/
theorem qe_fldk {K : PySem.W.Frag} {mg : Str → Option Value} (c : Fx K mg) {e : Expr} {w : WE} {f : Str} {pos : Pos} (h : QE X e w) (hK : X.K = K := by rfl) (hb : attributeBase e f X.env (eval e X.env) = eval e X.env := by rfl) : QE X (.Attribute e f pos) (wFldx K w f) := by
  subst hK
  exact qe_fldx h hb
theorem ct_isik {K : PySem.W.Frag} {mg : Str → Option Value} (c : Fx K mg) (hK : X.K = K := by rfl) : CaT X (.builtin "isinstance") (c2 (trIsi K)) := by
  subst hK
  exact ct_isi
end
end Tr

set_option Elab.async false
set_option linter.all false
set_option maxRecDepth 100000
set_option maxHeartbeats 4000000
/-! A method whose promise goes by the class. -/
namespace Tr
open PySem L2
section
variable {X : Cx}
def tMethC {ι : Type} (Cs : ι → Addr → Prop) (m : Str) (sp : ι → Sp) (ta : TE) (t : TA) : TE := fun σ H Q => ta σ H fun x H1 => ∃ a C dx fs i, x = .ref a ∧ H1 a = some (.ins C dx fs) ∧ Cs i C ∧ fs.lookup m = none ∧ t σ H1 fun vs H2 => sp i (x :: vs) H2 Q E0
theorem pe_methC {ι : Type} {Cs : ι → Addr → Prop} {m : Str} {n : Nat} {F : ι → TSpec} {o e : Expr} {es : List Expr} {ta : TE} {t : TA} {apos pos : Pos} {pl : Sem Bool} (hOk : ∀ i C, Cs i C → MethOk X C m n (F i)) (he : PE X o ta) (ha : PA X (e :: es) t)
    (hst : starEach (e :: es) X.env = (false, eval e X.env) :: starEach es X.env := by rfl) (hpl : (backTo pos (starEach es X.env)).any (·.1) = false := by rfl)
    (ht : eval (.Call (.Attribute o m apos) (e :: es) [] pos) X.env = (do
      let ov ← eval o X.env
      standAt apos.atName
      let (f, first) ← holding [ov] (getMethod ov m pl)
      callWith pos f first (backTo pos (starEach (e :: es) X.env)) (backToKw pos (keywordEach [] X.env))) := by rfl) :
    PE X (.Call (.Attribute o m apos) (e :: es) [] pos) (tMethC Cs m (fun i => spT n (F i)) ta t) := by
  constructor
  intro pins s σ H Q I h
  refine PySem.W.methodCall_KW (pl := pl) (thn (he.run pins s σ H _ I h) fun u s1 hu => ?_) ht
  obtain ⟨x, H1, I1, rx, a, C, dx, fs, i, ex, ea, hC, l, q⟩ := hu
  obtain ⟨f, fd, ps, k, c, hm, Fk, hr, hb⟩ := (hOk i C hC).ex
  cases ex
  cases rx
  refine getmeth_ok I1 ea c hm l ?_
  refine PySem.W.callWith_K (first := [.ref a]) (h₀ := X.base) I.ok.mod.kin hm.kp (thn (ha.run pos pins s1 σ H1 _ I1 q) fun us s2 hv => ?_) hst hpl
  obtain ⟨vs, H2, I2, r, q2⟩ := hv
  refine ⟨I2.kIn, run_fn (us := .ref a :: us) (vs := .ref a :: vs) Fk hr hb .nil pass0 I2 (.cons rfl r) ?_⟩
  rw [List.append_nil]
  exact q2
structure mcI {ι : Type} (Cs : ι → Addr → Prop) (m : Str) (o : Option OO) (N : ι → Prop) : Prop where
  ex : ∃ i C fs, o = some (.ins C fs) ∧ Cs i C ∧ fs.lookup m = none ∧ N i
def wMethc {ι : Type} (Cs : ι → Addr → Prop) (m : Str) (n : Nat) (F : ι → TSpec) (wo : WE) (u : WA) : WE := fun s M Q => wo s M fun t M1 => mcI Cs m (view M1 t) fun i => u s M1 fun ts M2 => ts.length + 1 = n ∧ cl (F i) (t :: ts) M2 Q
theorem qe_methc {ι : Type} {Cs : ι → Addr → Prop} {m : Str} {n : Nat} {F : ι → TSpec} {o e : Expr} {es : List Expr} {wo : WE} {u : WA} {apos pos : Pos} {pl : Sem Bool} (hOk : ∀ i C, Cs i C → MethOk X C m n (F i)) (he : QE X o wo) (ha : QA X (e :: es) u)
    (hst : starEach (e :: es) X.env = (false, eval e X.env) :: starEach es X.env := by rfl) (hpl : (backTo pos (starEach es X.env)).any (·.1) = false := by rfl)
    (ht : eval (.Call (.Attribute o m apos) (e :: es) [] pos) X.env = (do
      let ov ← eval o X.env
      standAt apos.atName
      let (f, first) ← holding [ov] (getMethod ov m pl)
      callWith pos f first (backTo pos (starEach (e :: es) X.env)) (backToKw pos (keywordEach [] X.env))) := by rfl) :
    QE X (.Call (.Attribute o m apos) (e :: es) [] pos) (wMethc Cs m n F wo u) := by
  refine ⟨PEw (pe_methC (pl := pl) hOk he.pe ha.pa hst hpl ht) fun σ H Q ⟨G, M, s, Qt, S, R, w, k⟩ => ⟨G, M, s, _, S, R, w, fun t M1 G1 H1 v ⟨j, C, fs, ev, hC, hl, q⟩ e r => ?_⟩,
    fun s M Q Q' i z => he.mono s M _ _ (fun t M1 ⟨j, C, fs, e, a, b, q⟩ => ⟨j, C, fs, e, a, b, ha.mono s M1 _ _ (fun ts M2 q2 => ⟨q2.1, cl_mono i q2.2⟩) q⟩) z⟩
  obtain ⟨a, dx, vs, rfl, ha1, rf⟩ := view_ins e.st r ev
  refine ⟨a, C, dx, vs, j, rfl, ha1, hC, rf.none hl, G1, M1, s, _, e.st, R.mono e.gs, q, fun ts M2 G2 H2 us q2 e2 rs => ?_⟩
  refine spT_cl ?_ e2.st (Reps.cons (r.mono e2.gs) rs) q2.2 fun t' M' G' H' v q' e' rt => k t' M' G' H' v q' ((e.trans e2).trans e') rt
  show us.length + 1 = n
  rw [← rs.len]
  exact q2.1
end
/-! ### dicts under a lock, by equations -/
structure dkI (t : T) (M : Mh) (f : List (Key × T) → List T) (Q : List T → (Mh → Prop) → Mh → Prop) : Prop where
  ex : ∃ a o vs kvs, t = .adr a ∧ M a = some (.dic (.lk o vs) kvs) ∧ Q (f kvs) (fun M' => M' a = some (.dic (.lk o vs) kvs)) M
theorem dkI.w {t : T} {M : Mh} {f : List (Key × T) → List T} {Q : List T → (Mh → Prop) → Mh → Prop} (h : dkI t M f Q) : dkW t M f Q := by
  obtain ⟨a, o, vs, kvs, e1, e2, q⟩ := h
  subst e1
  exact dkW_of e2 q
theorem QI.weak {X : Cx} {tg e : Expr} {w w' : WI} (h : QI X tg e w) (i : ∀ s M Q, w' s M Q → w s M Q) (m : ∀ s M Q Q', (∀ ts k M', Q ts k M' → Q' ts k M') → w' s M Q → w' s M Q') : QI X tg e w' :=
  ⟨PIw h.pi fun σ H R ⟨G, M, s, Qt, S, Rs, z, k⟩ => ⟨G, M, s, Qt, S, Rs, i _ _ _ z, k⟩, m⟩
theorem qi_keysx {X : Cx} {tg e : Expr} {w : WE} (h : QE X e w) : QI X tg e (fun s M Q => w s M fun t M1 => dkI t M1 keysT Q) :=
  (qi_keys h).weak (fun s M Q z => h.mono s M _ _ (fun t M1 q => q.w) z) fun s M Q Q' i z => h.mono s M _ _ (fun t M1 ⟨a, o, vs, kvs, e1, e2, q⟩ => ⟨a, o, vs, kvs, e1, e2, i _ _ _ q⟩) z
theorem qi_itemsx {X : Cx} {e : Expr} {w : WE} {apos cpos tpos : Pos} {elts : List Expr} {kk : Nat} (h : QE X e w) (hbase : attributeBase e "items" X.env (eval e X.env) = eval e X.env := by rfl) (hline : (apos.endLine == cpos.line) = true := by rfl) :
    QI X (.Tuple elts kk tpos) (.Call (.Attribute e "items" apos) [] [] cpos) (fun s M Q => w s M fun t M1 => dkI t M1 itemsT Q) :=
  (qi_items h hbase hline).weak (fun s M Q z => h.mono s M _ _ (fun t M1 q => q.w) z) fun s M Q Q' i z => h.mono s M _ _ (fun t M1 ⟨a, o, vs, kvs, e1, e2, q⟩ => ⟨a, o, vs, kvs, e1, e2, i _ _ _ q⟩) z
/-- a comprehension whose results are told by place -/
theorem lc_get {vs : List Nat} {bd : BindT} {te : WE} {s : TSt} {ts : List T} {keep : Mh → Prop} {M1 : Mh} {Q : TQ} (out : List T) (hk : keep M1) (hz : ts.length < 100000) (hl : out.length = ts.length)
    (h : ∀ (k : Nat) (t : T), ts[k]? = some t → ∃ b y, bd t = some b ∧ out[k]? = some y ∧ ∀ Q' : TQ, Q' y M1 → te (setsT (twipe s vs) b) M1 Q') (q : Q (.lst out) M1) : lcI vs bd wYes te s ts keep M1 Q := by
  refine ⟨fun k acc M' => M' = M1 ∧ acc = out.take k, ⟨rfl, rfl⟩, fun k acc M' e => by rw [e.1]; exact hk, fun k acc M' t et ⟨e1, e2⟩ => ?_, fun acc M' ⟨e1, e2⟩ => ?_⟩
  · subst e1 e2
    obtain ⟨b, y, hb, ho, f⟩ := h k t et
    refine ⟨b, hb, fun _ => f _ ⟨?_, rfl, (take_next ho).symm⟩, fun z => by cases z⟩
    rw [List.length_take]
    omega
  · subst e1 e2
    rw [← hl, List.take_length]
    exact q
theorem mset_id {M : Mh} {a : Addr} {o : OO} (h : M a = some o) : mset M a o = M := by
  funext b
  unfold mset
  by_cases e : b = a
  · rw [if_pos e, e, h]
  · rw [if_neg e]
theorem mset_comm {M : Mh} {a b : Addr} {o p : OO} (h : a ≠ b) : mset (mset M a o) b p = mset (mset M b p) a o := by
  funext c
  unfold mset
  by_cases e : c = b
  · rw [if_pos e]
    by_cases e2 : c = a
    · exact absurd (e2.symm.trans e) h
    · rw [if_neg e2, if_pos e]
  · rw [if_neg e]
    by_cases e2 : c = a
    · rw [if_pos e2, if_pos e2]
    · rw [if_neg e2, if_neg e2, if_neg e]
end Tr

set_option Elab.async false
set_option linter.all false
set_option maxRecDepth 100000
set_option maxHeartbeats 4000000
/-! sorted(x) of a list or a tuple of texts. -/
namespace Tr
open PySem PySem.Spec PyProof.Rows L2
section
variable {P : Program} {w : World} {A : Around} {E : Value → Shared → Prop} {s : Shared}
theorem gather_tup {l : Addr} {vs : List Value} {Q : List Value → Shared → Prop} (src : s.heap.IsTuple l vs.toArray)
    (fin : Q vs { s with heap := (s.heap.push (seqObj "list" #[] 0)).update s.heap.objs.size (Obj.mapSeq (· ++ vs.toArray)) }) (small : vs.length ≤ sizeLine) : wpAny (model P w) A (collect (.ref l)) Q E s := by
  obtain ⟨o, atL, clsL, n, datL⟩ := id src
  unfold collect
  refine wpAny_bind (wpAny_runValue (codeAny_builtin F.entry_proto_collect ?_))
  rw [Around.under_plainId F.plain_proto_collect _]
  show wpAny _ A.in1 (newList [] >>= fun z => again (.builtin "list.__iadd__" ⟨[z, .ref l], []⟩)) _ _ s
  refine wpAny_bind (wpAny_newList (wpAny_pure ⟨plainId_quiet F.plain_list_iadd _, codeAny_builtin F.entry_list_iadd ?_⟩))
  rw [Around.under_plainId F.plain_list_iadd _]
  show wpAny _ A.in1 (Builtin.List.listExtendWith (.ref s.heap.objs.size) (.ref l) (.ref s.heap.objs.size)) _ _ { s with heap := s.heap.push (seqObj "list" #[] 0) }
  unfold Builtin.List.listExtendWith
  have atL1 : (s.heap.push (seqObj "list" #[] 0)).get? l = some o := Heap.get?_push_of_some _ atL
  refine wpAny_bind (wpAny_typeOf (T := "tuple") ⟨o, atL1, clsL⟩ ?_)
  have ht : (Value.type "tuple" == Value.type "tuple") = true := by rfl
  rw [if_pos (by rw [ht]; simp)]
  refine wpAny_bind (listItems_at atL1 datL ?_)
  refine wpAny_bind (listItems_at (xs := #[]) (n := 0) (Heap.get?_push_size _ rfl) rfl ?_)
  rw [if_neg (by simp)]
  refine wpAny_bind (listUpdate_at (xs := #[]) (n := 0) (Heap.get?_push_size _ rfl) rfl ?_ (Nat.zero_le _) (by show (#[] ++ vs.toArray).size ≤ sizeLine + 1; simp only [Array.size_append, List.size_toArray, List.length_nil]; omega))
  refine wpAny_pure ?_
  show wpAny (model P w) A (do
      let z ← load s.heap.objs.size
      match z.data with
      | .seq xs _ => pure xs.toList
      | _ => unsupported "internal:collect") Q E { s with heap := (s.heap.push (seqObj "list" #[] 0)).update s.heap.objs.size (Obj.mapSeq (· ++ vs.toArray)) }
  refine wpAny_bind (wpAny_load (get?_update_seq (Heap.get?_push_size _ rfl) _) ?_)
  show wpAny _ _ (pure ((#[] : Array Value) ++ vs.toArray).toList) Q E _
  rw [show ((#[] : Array Value) ++ vs.toArray).toList = vs by simp]
  exact wpAny_pure fin
theorem sorted_tupS {l : Addr} {vs : List Value} {ss : List Str} {Q : Value → Shared → Prop} (src : s.heap.IsTuple l vs.toArray) (hS : StrsAre vs ss) (lv : vs.length < 64)
    (fin : ∀ (s' : Shared) (p : Addr) (out : Array Value) (c : Nat) (ms : List Str), (∀ b o, s.heap.get? b = some o → s'.heap.get? b = some o) → s'.gens = s.gens → s'.os = s.os → s.heap.objs.size ≤ p →
      s'.heap.get? p = some (seqObj "list" out c) → StrsAre out.toList ms → ms.Perm ss → sortedS ms = true → Q (.ref p) s') :
    wpAny (model P w) A (call (.builtin "sorted") [.ref l]) Q E s := by
  refine Calls.call_function_entry kind_sorted plain_sorted entry_sorted (args_sorted1 _) ?_
  unfold Builtin.«sorted»
  refine wpAny_bind (m := checkCount "sorted" 1 1 _) (wpAny_pure (wpAny_bind (gather_tup src ?_ (by rw [sizeLine_eq]; omega))))
  refine wpAny_bind (wpAny_newList ?_ (by rw [sizeLine_eq]; omega))
  generalize hh1 : (s.heap.push (seqObj "list" #[] 0)).update s.heap.objs.size (Obj.mapSeq (· ++ vs.toArray)) = h1
  have z1 : h1.objs.size = s.heap.objs.size + 1 := by rw [← hh1, Heap.size_update, size_push']
  have old : ∀ b o, s.heap.get? b = some o → h1.get? b = some o := fun b o e => by
    have lt := Heap.lt_size e
    rw [← hh1, Heap.get?_update_ne _ _ _ _ (Nat.ne_of_lt lt)]
    exact Heap.get?_push_of_some _ e
  have atN : (h1.push (seqObj "list" vs.toArray 0)).get? h1.objs.size = some (seqObj "list" vs.toArray 0) := Heap.get?_push_size _ rfl
  refine wpAny_bind (wpAny_holding (wpAny_call_entry slot_list_sort ⟨_, atN, rfl⟩ entry_list_sort (list_sort_treeK strKind_oneLt atN hS.keysOf (fun v1 v2 rest e => keyKind_strs (by rw [← e]; exact hS)) lv fun st' hp hs => ?_) (args_list_sort _)))
  obtain ⟨ms, a1, a2, a3⟩ := sorted_out_str hS hp hs
  obtain ⟨c, hc⟩ := sortedHeap_at (vs := vs) (out := (arrOf st').map (·.2)) atN
  refine ⟨_, rfl, wpAny_pure ⟨_, rfl, fin _ h1.objs.size _ c ms (fun b u e => ?_) rfl rfl (by omega) hc a1 a2 a3⟩⟩
  have q := old b u e
  have lt := Heap.lt_size q
  show (sortedHeap (h1.push (seqObj "list" vs.toArray 0)) h1.objs.size vs ((arrOf st').map (·.2))).get? b = some u
  rw [sortedHeap_old (Nat.ne_of_lt lt) (by rw [size_push']; exact Nat.lt_succ_of_lt lt)]
  exact Heap.get?_push_of_some _ q
end
section
variable {X : Cx}
def rSortTS (K : PySem.W.Frag) : List V → Hp → VK → Prop := fun vs H Q => ∃ (a : Addr) (xs : List Str), vs = [V.ref a] ∧ SqT K H a (xs.map V.str) ∧ xs.length < 64 ∧
  ∀ (ys : List Str) (p : Addr), ys.Perm xs → sortedS ys = true → H p = none → Q (.ref p) (upd H p (.lst (ys.map V.str)))
theorem cr_sortTS : CallR X (.builtin "sorted") (rSortTS X.K) := by
  intro pins s σ H vs us Q I r h
  obtain ⟨a, xs, rfl, hq, h64, q⟩ := h
  rw [Vals.ref1 r]
  obtain ⟨its, rv, pl, hz⟩ := I.tuple hq
  have hS : StrsAre its xs := by
    have z := rv.strs
    exact z
  have hl : its.length = xs.length := by
    have z := rv.length
    rw [List.length_map] at z
    exact z.symm
  refine sorted_tupS (show s.heap.IsTuple a its.toArray from pl) hS (by omega) fun s' p out c ms old hg ho hp hat hi hperm hsort => ?_
  obtain ⟨hn, J⟩ := laid_list (ys := ms.map V.str) I old hg ho hp hat (vals_of_strs hi) (by rw [List.length_map, hperm.length_eq, sizeLine_eq]; omega)
  exact ⟨.ref p, _, J, rfl, q ms p hperm hsort hn⟩
/-- sorted(x), x a solid list or tuple of texts -/
def trSortQ : List T → Mh → TQ → Prop := fun ts M Q => ∃ t xs, ts = [t] ∧ seqO t = some (xs.map T.str) ∧ xs.length < 64 ∧ ∀ ms : List Str, ms.Perm xs → sortedS ms = true → Q (.lst (ms.map T.str)) M
theorem ct_sortSq : CaT X (.builtin "sorted") trSortQ := by
  refine ⟨⟨_, OrCall cr_sortedS cr_sortTS, fun G M H ts vs Q Qv S rs ⟨t, xs, e, h, hl, q⟩ k => ?_⟩, fun ts M Q Q' i ⟨t, xs, e, h, hl, q⟩ => ⟨t, xs, e, h, hl, fun ms a b => i _ _ (q ms a b)⟩⟩
  subst e
  unfold Reps at rs
  obtain ⟨v, r0, rfl, r1, r2⟩ := rs
  unfold Reps at r2
  subst r2
  obtain ⟨a, us, rfl, ru, hh⟩ := seqO_x S r1 h
  have e := ru.strs
  subst e
  rcases hh with hh | hh
  · exact .inl ⟨a, xs, rfl, SqL.of hh, hl, fun ms p h1 h2 hp => k.lst S (q ms h1 h2) (Reps.of_strs ms) hp⟩
  · exact .inr ⟨a, xs, rfl, SqT.of hh, hl, fun ms p h1 h2 hp => k.lst S (q ms h1 h2) (Reps.of_strs ms) hp⟩
end
end Tr

set_option Elab.async false
set_option linter.all false
set_option maxRecDepth 100000
set_option maxHeartbeats 4000000
namespace Tr
open PySem PySem.Spec L2

/-! ### texts of signs -/
def isBits (x : Str) : Prop := 1 ≤ x.cps.size ∧ x.cps.size ≤ 7 ∧ ∀ c ∈ x.cps.toList, c = 48 ∨ c = 49
def optT : Option Int → T
  | none => .non
  | some i => .int i

section
variable {P : Program} {w : World} {K : PySem.W.Frag} {mg : Str → Option Value} {base : Heap}

def F_is_whole : TSpec := fun ts M Q => ∃ i : Int, ts = [.int i] ∧ Q (.bl true) M
theorem kp_is_whole (c : Fx K mg) : Kp P w K mg base ("is_whole", none) 1 1 (F_is_whole) := by
  refine kp_def (d := d_is_whole) c M_is_whole S_is_whole rfl (fun FD => FD.bindsN fun _ _ _ _ _ _ us hl => match us, hl with | [_], _ => rfl) fun cdv A outer s H E hr => ⟨_, (
    (qss_one (qs_ret (qe_and (qe_callB (ct_isik c) c.b_isinstance (qa_cons (qv 0) (qa_cons (qe_bty c.b_int rfl) qa_nil))) (qe_one (qe_not (qe_callB (ct_isik c) c.b_isinstance (qa_cons (qv 0) (qa_cons (qe_bty c.b_bool rfl) qa_nil))))))))), ?_⟩
  rintro ts M Q hl ⟨i, rfl, q⟩
  refine ⟨_, _, rfl, nocls, kt_ii, fun _ => ⟨_, _, rfl, nocls, kt_ib, ?_⟩, fun h => nomatch h⟩
  exact ⟨M, Msub.refl M, q⟩
def F_is_moment : TSpec := fun ts M Q => ∃ i : Int, ts = [.int i] ∧ Q (.bl (decide (0 ≤ i))) M
theorem kp_is_moment (c : Fx K mg) : Kp P w K mg base ("is_moment", none) 2 1 (F_is_moment) := by
  have k_is_whole := kp_is_whole (P := P) (w := w) (base := base) c
  refine kp_def (d := d_is_moment) c M_is_moment S_is_moment rfl (fun FD => FD.bindsN fun _ _ _ _ _ _ us hl => match us, hl with | [_], _ => rfl) fun cdv A outer s H E hr => ⟨_, (
    (qss_one (qs_ret (qe_and (qe_fn (k_is_whole) (hr.mono (by decide)) c.g_is_whole (qa_cons (qv 0) qa_nil)) (qe_one (qe_cmp ot_ge (qv 0) qe_int)))))), ?_⟩
  rintro ts M Q hl ⟨i, rfl, q⟩
  exact ⟨rfl, cl_of ⟨i, rfl, fun _ => ⟨M, Msub.refl M, q⟩, fun h => nomatch h⟩⟩
def F_want_moment : TSpec := fun ts M Q => ∃ i : Int, ts = [.int i] ∧ 0 ≤ i ∧ Q .non M
theorem kp_want_moment (c : Fx K mg) : Kp P w K mg base ("want_moment", none) 3 1 (F_want_moment) := by
  have k_is_moment := kp_is_moment (P := P) (w := w) (base := base) c
  refine kp_def (d := d_want_moment) c M_want_moment S_want_moment rfl (fun FD => FD.bindsN fun _ _ _ _ _ _ us hl => match us, hl with | [_], _ => rfl) fun cdv A outer s H E hr => ⟨_, (
    (qss_one (qs_if (qt_not (qt_val (qe_fn (k_is_moment) (hr.mono (by decide)) c.g_is_moment (qa_cons (qv 0) qa_nil))))
      (qss_one qs_never)
      qss_nil))), ?_⟩
  rintro ts M Q hl ⟨i, rfl, h0, q⟩
  refine ⟨rfl, cl_of ⟨i, rfl, ?_⟩⟩
  show (_ = true → _) ∧ (_ = false → _)
  rw [decide_eq_true h0]
  exact ⟨fun h => (nomatch h), fun _ => ⟨M, Msub.refl M, q⟩⟩
def F_want_day : TSpec := fun ts M Q => ∃ i : Int, ts = [.int i] ∧ 0 ≤ i ∧ Q .non M
theorem kp_want_day (c : Fx K mg) : Kp P w K mg base ("want_day", none) 3 1 (F_want_day) := by
  have k_is_moment := kp_is_moment (P := P) (w := w) (base := base) c
  refine kp_def (d := d_want_day) c M_want_day S_want_day rfl (fun FD => FD.bindsN fun _ _ _ _ _ _ us hl => match us, hl with | [_], _ => rfl) fun cdv A outer s H E hr => ⟨_, (
    (qss_one (qs_if (qt_not (qt_val (qe_fn (k_is_moment) (hr.mono (by decide)) c.g_is_moment (qa_cons (qv 0) qa_nil))))
      (qss_one qs_never)
      qss_nil))), ?_⟩
  rintro ts M Q hl ⟨i, rfl, h0, q⟩
  refine ⟨rfl, cl_of ⟨i, rfl, ?_⟩⟩
  show (_ = true → _) ∧ (_ = false → _)
  rw [decide_eq_true h0]
  exact ⟨fun h => (nomatch h), fun _ => ⟨M, Msub.refl M, q⟩⟩
theorem chT_mem {x : Str} {t : T} (h : t ∈ chT x) : ∃ c ∈ x.cps.toList, t = .str ⟨#[c]⟩ := by
  obtain ⟨c, hc, e⟩ := List.mem_map.mp h
  exact ⟨c, hc, e.symm⟩
theorem all_true {α : Type} (l : List α) : (l.map fun _ => true).all id = true := by
  induction l with
  | nil => rfl
  | cons x l ih => exact ih
def F_are_signs : TSpec := fun ts M Q => ∃ x : Str, ts = [.str x] ∧ isBits x ∧ Q (.bl true) M
theorem kp_are_signs (c : Fx K mg) : Kp P w K mg base ("are_signs", none) 1 1 (F_are_signs) := by
  refine kp_def (d := d_are_signs) c M_are_signs S_are_signs rfl (fun FD => FD.bindsN fun _ _ _ _ _ _ us hl => match us, hl with | [_], _ => rfl) fun cdv A outer s H E hr => ⟨_, (
    (qss_cons (qs_if (QW.qt (qw_or (qt_not (qt_val (qe_callB (ct_isik c) c.b_isinstance (qa_cons (qv 0) (qa_cons (qe_bty c.b_str rfl) qa_nil))))) (qw_or1 (qt_not (qt_chain ot_le ot_le qe_int (qe_callB ct_lenS c.b_len (qa_cons (qv 0) qa_nil)) (qe_gint c.i_MOST_SIGNS))))))
      (qss_one (qs_ret qe_bl))
      qss_nil)
      (qss_one (qs_ret (qe_callB (ct_all rfl) c.b_all (qa_cons (qe_lc1 1 rfl S_are_signs.nd (qi_str (qv 0)) (blkOk_by (by rfl)) (fun s H C cl fp => qts_nil) (fun s H C cl fp => (qe_cmp ot_in (qv 1) (qe_tup (qa_cons (qe_gstr c.s_NOUGHT) (qa_cons (qe_gstr c.s_ONE) qa_nil)))))) qa_nil)))))), ?_⟩
  rintro ts M Q hl ⟨x, rfl, ⟨h1, h2, h3⟩, q⟩
  have e1 : x.length = x.cps.size := rfl
  refine ⟨_, _, rfl, nocls, kt_ss, no rfl ?_⟩
  refine ⟨by omega, yesd (by omega) (no ?_ ?_)⟩
  · show (!decide (((x.length : Nat) : Int) ≤ 7)) = false
    rw [decide_eq_true (by omega)]
    rfl
  refine lc_map (ts := chT x) (M1 := M) (fun _ => .bl true) kT (by rw [chT_len]; omega) (fun t ht => ?_) ?_
  · obtain ⟨c, hc, rfl⟩ := chT_mem ht
    refine ⟨_, rfl, fun Q' q' => ?_⟩
    rcases h3 c hc with rfl | rfl
    · exact ⟨by decide, rfl, q'⟩
    · exact ⟨by decide, rfl, q'⟩
  · refine ⟨(chT x).map fun _ => true, by rw [List.map_map]; rfl, M, Msub.refl M, ?_⟩
    show Q (.bl (((chT x).map fun _ => true).all id)) M
    rw [all_true]
    exact q
abbrev fd (f : Str) (t : T) : Str × T := (f, t)
def ringT (K : PySem.W.Frag) (x : Str) : T := .ins (He.ga K "Ring") [fd "bits" (.str x)]
def R_Ring (args : List T) (fs : List (Str × T)) : Prop := ∃ x, args = [.str x] ∧ isBits x ∧ fs = [fd "bits" (.str x)]
def F_Ring_init (K : PySem.W.Frag) : TSpec := FI (He.ga K "Ring") R_Ring
theorem kp_Ring_init (c : Fx K mg) : Kp P w K mg base ("Ring", some "__init__") 2 2 (F_Ring_init K) := by
  have k_are_signs := kp_are_signs (P := P) (w := w) (base := base) c
  refine kp_def (d := d_Ring_init) c M_Ring_init S_Ring_init rfl (fun FD => FD.bindsN fun _ _ _ _ _ _ us hl => match us, hl with | [_, _], _ => rfl) fun cdv A outer s H E hr => ⟨_, (
    (qss_cons (qs_if (qt_not (qt_val (qe_fn (k_are_signs) (hr.mono (by decide)) c.g_are_signs (qa_cons (qv 1) qa_nil))))
      (qss_one qs_never)
      qss_nil)
      (qss_one (qs_fldx (qv 0) (qv 1))))), ?_⟩
  rintro ts M Q hl ⟨a, args, fs, rfl, hM, ⟨x, rfl, hx, rfl⟩, q⟩
  refine ⟨rfl, cl_of ⟨x, rfl, hx, no rfl ?_⟩⟩
  exact ⟨a, _, _, rfl, hM, c.c_Ring, c.n_Ring_bits, by decide, _, Msub.refl _, q⟩
theorem sign_eq (c d : Nat) : decide ((⟨#[c]⟩ : Str) = ⟨#[d]⟩) = decide (some c = some d) := by
  by_cases h : c = d
  · rw [h, decide_eq_true rfl, decide_eq_true rfl]
  · rw [decide_eq_false fun z => h ?_, decide_eq_false fun z => h (Option.some.inj z)]
    have z2 : (#[c] : Array Nat) = #[d] := congrArg Str.cps z
    simpa using z2
theorem sign_one (c : Nat) : decide (some c = some 49) = decide ((⟨#[c]⟩ : Str) = "1") := by
  rw [show ("1" : Str) = ⟨#[49]⟩ from by decide, sign_eq]
/-- the sign of that day is 1 -/
def bitAt (x : Str) (d : Int) : Bool := decide (x.cps.toList[(d % (x.cps.size : Int)).toNat]? = some 49)
def F_Ring_rings (K : PySem.W.Frag) : TSpec := fun ts M Q => ∃ x d, ts = [ringT K x, .int d] ∧ isBits x ∧ 0 ≤ d ∧ Q (.bl (bitAt x d)) M
theorem kp_Ring_rings (c : Fx K mg) : Kp P w K mg base ("Ring", some "rings") 4 2 (F_Ring_rings K) := by
  have k_want_day := kp_want_day (P := P) (w := w) (base := base) c
  refine kp_def (d := d_Ring_rings) c M_Ring_rings S_Ring_rings rfl (fun FD => FD.bindsN fun _ _ _ _ _ _ us hl => match us, hl with | [_, _], _ => rfl) fun cdv A outer s H E hr => ⟨_, (
    (qss_cons (qs_expr (qe_fn (k_want_day) (hr.mono (by decide)) c.g_want_day (qa_cons (qv 1) qa_nil)))
      (qss_one (qs_ret (qe_cmp ot_eq (qe_ix it_str (qe_fldk c (qv 0)) (qe_op ot_mod (qv 1) (qe_callB ct_lenS c.b_len (qa_cons (qe_fldk c (qv 0)) qa_nil)))) (qe_gstr c.s_ONE)))))), ?_⟩
  rintro ts M Q hl ⟨x, d, rfl, ⟨h1, h2, h3⟩, h0, q⟩
  have e1 : x.length = x.cps.size := rfl
  have l1 : x.cps.toList.length = x.cps.size := Array.length_toList
  have p0 : 0 ≤ d % (x.cps.size : Int) := Int.emod_nonneg _ (by omega)
  have p1 : d % (x.cps.size : Int) < (x.cps.size : Int) := Int.emod_lt_of_pos _ (by omega)
  have lt : (d % (x.cps.size : Int)).toNat < x.cps.toList.length := by omega
  have get := List.getElem?_eq_getElem lt
  refine ⟨rfl, cl_of ⟨d, rfl, h0, _, _, _, rfl, c.c_Ring, c.n_Ring_bits, rfl, _, _, _, rfl, c.c_Ring, c.n_Ring_bits, rfl, by omega, by show (0 : Int) < ((x.length : Nat) : Int); omega, _, p0, by omega, get, M, Msub.refl M, ?_⟩⟩
  have e2 : bitAt x d = decide ((⟨#[x.cps.toList[(d % (x.cps.size : Int)).toNat]]⟩ : Str) = "1") := by
    unfold bitAt
    rw [get, sign_one]
  rw [e2] at q
  exact q
theorem mk_rings (c : Fx K mg) : ∀ C, C = He.ga K "Ring" → MethK P w K mg base C "rings" 4 2 (F_Ring_rings K) := fun C e => by
  subst e
  exact methK c.c_Ring c.m_Ring_rings (kp_Ring_rings c)
end
/-! ### days -/
structure LD where
  bits : Str
  low : Int
  high : Option Int
  gone : List Int
  more : List Int
structure LD.Ok (d : LD) : Prop where
  bits : isBits d.bits
  low : 0 ≤ d.low
  high : ∀ h, d.high = some h → 0 ≤ h ∧ d.low ≤ h
  gone1 : d.gone.length ≤ 1
  gone : ∀ n ∈ d.gone, 0 ≤ n
  more1 : d.more.length ≤ 1
  more : ∀ n ∈ d.more, 0 ≤ n ∧ n ∉ d.gone
abbrev intsT (ns : List Int) : List T := ns.map T.int
abbrev strsT1 (ns : List Str) : List T := ns.map T.str
def daysF (K : PySem.W.Frag) (d : LD) : List (Str × T) := [fd "ring" (ringT K d.bits), fd "since" (.int d.low), fd "till" (optT d.high), fd "out" (.tup (intsT d.gone)), fd "also" (.tup (intsT d.more))]
def daysT (K : PySem.W.Frag) (d : LD) : T := .ins (He.ga K "Days") (daysF K d)
/-- the law's own form -/
def dayL (d : LD) : T := .tup [.str d.bits, .int d.low, optT d.high, .lst (intsT d.gone), .lst (intsT d.more)]
def beyond (o : Option Int) (x : Int) : Bool := match o with
  | none => false
  | some h => decide (h < x)
def hasD (d : LD) (x : Int) : Bool := decide (x ∈ d.more) || (!(decide (x < d.low) || (beyond d.high x || decide (x ∈ d.gone))) && bitAt d.bits x)
theorem inI_map (i : Int) (ns : List Int) : inI i (intsT ns) = decide (i ∈ ns) := by
  unfold inI
  rw [List.any_map]
  induction ns with
  | nil => rfl
  | cons n ns ih =>
    rw [List.any_cons, ih]
    by_cases h : n = i
    · subst h
      simp
    · have h2 : ¬ i = n := fun z => h z.symm
      simp [h, h2]
theorem inS_map (i : Str) (ns : List Str) : inS i (strsT1 ns) = decide (i ∈ ns) := by
  unfold inS
  rw [List.any_map]
  induction ns with
  | nil => rfl
  | cons n ns ih =>
    rw [List.any_cons, ih]
    by_cases h : n = i
    · subst h
      simp
    · have h2 : ¬ i = n := fun z => h z.symm
      simp [h, h2]
theorem flatI (ns : List Int) : (intsT ns).all flatT = true := by
  rw [List.all_map]
  exact List.all_eq_true.mpr fun x _ => rfl
theorem flatS (ns : List Str) : (strsT1 ns).all flatT = true := by
  rw [List.all_map]
  exact List.all_eq_true.mpr fun x _ => rfl
theorem few {n : Nat} (h : Nat.ble (n + 1) 1000 = true) : n < 1000 := Nat.le_of_ble_eq_true h
theorem perm1 {α : Type} {ms ns : List α} (p : ms.Perm ns) (h : ns.length ≤ 1) : ms = ns := by
  match ns, h with
  | [], _ => exact p.eq_nil
  | [n], _ => exact List.perm_singleton.mp p
section
variable {P : Program} {w : World} {K : PySem.W.Frag} {mg : Str → Option Value} {base : Heap}

def F_told_days : TSpec := fun ts M Q => ∃ ns, ts = [.lst (intsT ns)] ∧ ns.length ≤ 1 ∧ (∀ n ∈ ns, 0 ≤ n) ∧ Q (.tup (intsT ns)) M
theorem kp_told_days (c : Fx K mg) : Kp P w K mg base ("told_days", none) 4 1 (F_told_days) := by
  have k_want_day := kp_want_day (P := P) (w := w) (base := base) c
  refine kp_def (d := d_told_days) c M_told_days S_told_days rfl (fun FD => FD.bindsN fun _ _ _ _ _ _ us hl => match us, hl with | [_], _ => rfl) fun cdv A outer s H E hr => ⟨_, (
    (qss_cons (qs_if (qt_cmp ot_isN (qv 0) qe_non)
      (qss_one (qs_ret (qe_tup qa_nil)))
      qss_nil)
      (qss_cons (qs_if (QW.qt (qw_or (qt_not (qt_val (qe_callB (ct_isik c) c.b_isinstance (qa_cons (qv 0) (qa_cons (qe_tup (qa_cons (qe_bty c.b_list rfl) (qa_cons (qe_bty c.b_tuple rfl) qa_nil))) qa_nil))))) (qw_or1 (qt_cmp ot_gt (qe_callB ct_len c.b_len (qa_cons (qv 0) qa_nil)) (qe_gint c.i_MOST_DAYS)))))
      (qss_one qs_never)
      qss_nil)
      (qss_cons (qs_for PassesOwn.never rfl (qi_lst (qv 0)) (qg_name 1 S_told_days.nd)
      (qss_one (qs_expr (qe_fn (k_want_day) (hr.mono (by decide)) c.g_want_day (qa_cons (qv 1) qa_nil)))))
      (qss_cons (qs_set 2 S_told_days.nd (qe_callTy ct_tuple c.b_tuple (qa_cons (qe_callB ct_sortI c.b_sorted (qa_cons (qv 0) qa_nil)) qa_nil)))
      (qss_cons (qs_if (qt_val (qe_callB (ct_any rfl) c.b_any (qa_cons (qe_lc2 3 4 rfl S_told_days.nd (qi_zip (qa_cons (qv 2) (qa_cons (qe_tail (qv 2) qe_int) qa_nil)) (by rfl) c.b_zip) (blkOk_by (by rfl)) (fun s H C cl fp => qts_nil) (fun s H C cl fp => (qe_cmp ot_eq (qv 3) (qv 4)))) qa_nil)))
      (qss_one qs_never)
      qss_nil)
      (qss_one (qs_ret (qv 2))))))))), ?_⟩
  rintro ts M Q hl ⟨ns, rfl, h1, h2, q⟩
  refine no rfl ⟨by decide, _, _, rfl, nocls, ka_l, no rfl (nod (by rw [List.length_map]; omega) ?_)⟩
  refine ⟨fun k s' M' => M' = M ∧ ∃ o, s' = [some (.lst (intsT ns)), o, none, none, none], ⟨rfl, none, rfl⟩, fun _ _ _ _ => kT, ?_, ?_⟩
  · rintro k s' M' t et ⟨rfl, o, rfl⟩
    obtain ⟨n, hn, rfl⟩ := List.mem_map.mp (List.mem_of_getElem? et)
    exact ⟨rfl, cl_of ⟨n, rfl, h2 n hn, rfl, _, rfl⟩⟩
  · rintro s' M' ⟨rfl, o, rfl⟩
    refine ⟨ns, rfl, fun ms p _ => ?_⟩
    have e := perm1 p h1
    subst e
    refine ⟨rfl, ?_⟩
    match ms, h1, q with
    | [], _, q =>
      refine lc_map (ts := zipT (intsT []) (List.drop 1 (intsT []))) (M1 := M') (fun _ => .bl true) kT (by decide) (fun t ht => absurd ht (by simp [zipT])) ?_
      exact ⟨[], rfl, no rfl ⟨M', Msub.refl _, q⟩⟩
    | [n], _, q =>
      refine lc_map (ts := zipT (intsT [n]) (List.drop 1 (intsT [n]))) (M1 := M') (fun _ => .bl true) kT (by simp [zipT]) (fun t ht => absurd ht (by simp [zipT])) ?_
      exact ⟨[], rfl, no rfl ⟨M', Msub.refl _, q⟩⟩
def F_want_till : TSpec := fun ts M Q => ∃ s o, ts = [.int s, optT o] ∧ (∀ h, o = some h → 0 ≤ h ∧ s ≤ h) ∧ Q .non M
theorem kp_want_till (c : Fx K mg) : Kp P w K mg base ("want_till", none) 4 2 (F_want_till) := by
  have k_want_day := kp_want_day (P := P) (w := w) (base := base) c
  refine kp_def (d := d_want_till) c M_want_till S_want_till rfl (fun FD => FD.bindsN fun _ _ _ _ _ _ us hl => match us, hl with | [_, _], _ => rfl) fun cdv A outer s H E hr => ⟨_, (
    (qss_one (qs_if (qt_cmp ot_notN (qv 1) qe_non)
      (qss_cons (qs_expr (qe_fn (k_want_day) (hr.mono (by decide)) c.g_want_day (qa_cons (qv 1) qa_nil)))
      (qss_one (qs_if (qt_cmp ot_lt (qv 1) (qv 0))
      (qss_one qs_never)
      qss_nil)))
      qss_nil))), ?_⟩
  rintro ts M Q hl ⟨s, o, rfl, h, q⟩
  cases o with
  | none => exact no rfl ⟨M, Msub.refl M, q⟩
  | some j =>
    obtain ⟨h0, h1⟩ := h j rfl
    exact yes rfl ⟨rfl, cl_of ⟨j, rfl, h0, nod (by omega) ⟨M, Msub.refl M, q⟩⟩⟩
def R_Days (K : PySem.W.Frag) (args : List T) (fs : List (Str × T)) : Prop := ∃ d : LD, d.Ok ∧ args = [ringT K d.bits, .int d.low, optT d.high, .lst (intsT d.gone), .lst (intsT d.more)] ∧ fs = daysF K d
def F_Days_init (K : PySem.W.Frag) : TSpec := FI (He.ga K "Days") (R_Days K)
theorem kp_Days_init (c : Fx K mg) : Kp P w K mg base ("Days", some "__init__") 5 6 (F_Days_init K) := by
  have k_told_days := kp_told_days (P := P) (w := w) (base := base) c
  have k_want_day := kp_want_day (P := P) (w := w) (base := base) c
  have k_want_till := kp_want_till (P := P) (w := w) (base := base) c
  refine kp_def (d := d_Days_init) c M_Days_init S_Days_init rfl (fun FD => binds_all FD (by exact List.cons_ne_nil _ _) fun _ _ _ _ _ _ _ us its hl h2 => match us, hl, its, h2 with | [_, _, _, _, _, _], _, [_, _, _, _], _ => ⟨_, rfl, rfl⟩) fun cdv A outer s H E hr => ⟨_, (
    (qss_cons (qs_if (qt_not (qt_val (qe_callB (ct_isik c) c.b_isinstance (qa_cons (qv 1) (qa_cons (qe_gref c.g_Ring) qa_nil)))))
      (qss_one qs_never)
      qss_nil)
      (qss_cons (qs_expr (qe_fn (k_want_day) (hr.mono (by decide)) c.g_want_day (qa_cons (qv 2) qa_nil)))
      (qss_cons (qs_expr (qe_fn (k_want_till) (hr.mono (by decide)) c.g_want_till (qa_cons (qv 2) (qa_cons (qv 3) qa_nil))))
      (qss_cons (qs_fldx (qv 0) (qv 1))
      (qss_cons (qs_fldx (qv 0) (qv 2))
      (qss_cons (qs_fldx (qv 0) (qv 3))
      (qss_cons (qs_fldx (qv 0) (qe_fn (k_told_days) (hr.mono (by decide)) c.g_told_days (qa_cons (qv 4) qa_nil)))
      (qss_cons (qs_fldx (qv 0) (qe_fn (k_told_days) (hr.mono (by decide)) c.g_told_days (qa_cons (qv 5) qa_nil)))
      (qss_one (qs_if (qt_val (qe_callB (ct_any rfl) c.b_any (qa_cons (qe_lc1 6 rfl S_Days_init.nd (qi_tup (qe_fldk c (qv 0))) (blkOk_by (by rfl)) (fun s H C cl fp => qts_nil) (fun s H C cl fp => (qe_cmp ot_in (qv 6) (qe_fldk c (qv 0))))) qa_nil)))
      (qss_one qs_never)
      qss_nil))))))))))), ?_⟩
  rintro ts M Q hl ⟨a, args, fs, rfl, hM, ⟨d, ok, rfl, rfl⟩, q⟩
  refine ⟨_, _, rfl, onecls c.y_Ring, c.t_Ring_Ring, no rfl ⟨rfl, cl_of ⟨d.low, rfl, ok.low, rfl, cl_of ⟨d.low, d.high, rfl, ok.high, ?_⟩⟩⟩⟩
  refine ⟨a, _, _, rfl, hM, c.c_Days, c.n_Days_ring, few rfl, ?_⟩
  refine ⟨a, _, _, rfl, mset_same, c.c_Days, c.n_Days_since, few rfl, ?_⟩
  refine ⟨a, _, _, rfl, mset_same, c.c_Days, c.n_Days_till, few rfl, ?_⟩
  refine ⟨rfl, cl_of ⟨d.gone, rfl, ok.gone1, ok.gone, a, _, _, rfl, mset_same, c.c_Days, c.n_Days_out, few rfl, ?_⟩⟩
  refine ⟨rfl, cl_of ⟨d.more, rfl, ok.more1, fun n hn => (ok.more n hn).1, a, _, _, rfl, mset_same, c.c_Days, c.n_Days_also, few rfl, ?_⟩⟩
  simp only [mset_set]
  refine ⟨_, _, _, mset_same, c.c_Days, c.n_Days_also, rfl, ?_⟩
  refine lc_map (ts := intsT d.more) (fun _ => .bl false) kT (by rw [List.length_map]; have := ok.more1; omega) (fun t ht => ?_) ?_
  · obtain ⟨n, hn, rfl⟩ := List.mem_map.mp ht
    refine ⟨_, rfl, fun Q' q' => ⟨_, _, _, mset_same, c.c_Days, c.n_Days_out, rfl, flatI _, ?_⟩⟩
    show Q' (.bl (inI n (intsT d.gone))) _
    rw [inI_map, decide_eq_false (ok.more n hn).2]
    exact q'
  · refine ⟨d.more.map fun _ => false, by rw [List.map_map, List.map_map]; rfl, no ?_ ⟨_, Msub.refl _, q⟩⟩
    show ((d.more.map fun _ => false).any id) = false
    rw [List.any_map]
    exact List.any_eq_false.mpr fun x _ => by simp
def F_Days_has (K : PySem.W.Frag) : TSpec := fun ts M Q => ∃ (d : LD) (x : Int), ts = [daysT K d, .int x] ∧ d.Ok ∧ 0 ≤ x ∧ Q (.bl (hasD d x)) M
theorem kp_Days_has (c : Fx K mg) : Kp P w K mg base ("Days", some "has") 5 2 (F_Days_has K) := by
  have k_want_day := kp_want_day (P := P) (w := w) (base := base) c
  have m_rings := mk_rings (P := P) (w := w) (base := base) c
  refine kp_def (d := d_Days_has) c M_Days_has S_Days_has rfl (fun FD => FD.bindsN fun _ _ _ _ _ _ us hl => match us, hl with | [_, _], _ => rfl) fun cdv A outer s H E hr => ⟨_, (
    (qss_cons (qs_expr (qe_fn (k_want_day) (hr.mono (by decide)) c.g_want_day (qa_cons (qv 1) qa_nil)))
      (qss_cons (qs_if (qt_cmp ot_in (qv 1) (qe_fldk c (qv 0)))
      (qss_one (qs_ret qe_bl))
      qss_nil)
      (qss_cons (qs_if (QW.qt (qw_or (qt_cmp ot_lt (qv 1) (qe_fldk c (qv 0))) (qw_or (QW.qt (qw_and (qt_cmp ot_notN (qe_fldk c (qv 0)) qe_non) (qw_and1 (qt_cmp ot_gt (qv 1) (qe_fldk c (qv 0)))))) (qw_or1 (qt_cmp ot_in (qv 1) (qe_fldk c (qv 0)))))))
      (qss_one (qs_ret qe_bl))
      qss_nil)
      (qss_one (qs_ret (qe_methx (fun C e => (m_rings C e).ok (hr.mono (by decide))) (qe_fldk c (qv 0)) (qa_cons (qv 1) qa_nil)))))))), ?_⟩
  rintro ts M Q hl ⟨d, x, rfl, ok, h0, q⟩
  refine ⟨rfl, cl_of ⟨x, rfl, h0, _, _, _, rfl, c.c_Days, c.n_Days_also, rfl, flatI _, ?_⟩⟩
  show (inI x (intsT d.more) = true → _) ∧ (inI x (intsT d.more) = false → _)
  rw [inI_map]
  unfold hasD at q
  by_cases h1 : x ∈ d.more
  · rw [decide_eq_true h1, Bool.true_or] at q
    exact yesd h1 ⟨M, Msub.refl M, q⟩
  rw [decide_eq_false h1, Bool.false_or] at q
  refine nod h1 ⟨_, _, _, rfl, c.c_Days, c.n_Days_since, rfl, ?_⟩
  by_cases h2 : x < d.low
  · rw [decide_eq_true h2, Bool.true_or] at q
    exact yesd h2 (yes rfl ⟨M, Msub.refl M, q⟩)
  rw [decide_eq_false h2, Bool.false_or] at q
  refine nod h2 ⟨_, _, _, rfl, c.c_Days, c.n_Days_till, rfl, ?_⟩
  have ring : Q (.bl (bitAt d.bits x)) M → wRet (wMethx (fun C => C = He.ga K "Ring") "rings" 2 (F_Ring_rings K) (wFldx K (wVar 0) "ring") (wCons (wVar 1) wNil)) (endsF Q) [some (daysT K d), some (.int x)] M := fun q =>
    ⟨_, _, _, rfl, c.c_Days, c.n_Days_ring, rfl, _, _, rfl, rfl, rfl, rfl, cl_of ⟨d.bits, x, rfl, ok.bits, h0, M, Msub.refl M, q⟩⟩
  have gone : Q (.bl (!decide (x ∈ d.gone) && bitAt d.bits x)) M → (inI x (intsT d.gone) = true → (endsF Q).rt (.bl false) M) ∧ (inI x (intsT d.gone) = false → wRet (wMethx (fun C => C = He.ga K "Ring") "rings" 2 (F_Ring_rings K) (wFldx K (wVar 0) "ring") (wCons (wVar 1) wNil)) (endsF Q) [some (daysT K d), some (.int x)] M) := fun q => by
    rw [inI_map]
    by_cases h3 : x ∈ d.gone
    · rw [decide_eq_true h3] at q
      exact yesd h3 ⟨M, Msub.refl M, q⟩
    · rw [decide_eq_false h3] at q
      exact nod h3 (ring q)
  obtain ⟨bits, low, high, gone1, more⟩ := d
  cases high with
  | none => exact no rfl (no rfl ⟨_, _, _, rfl, c.c_Days, c.n_Days_out, rfl, flatI _, gone q⟩)
  | some h =>
    refine yes rfl ⟨_, _, _, rfl, c.c_Days, c.n_Days_till, rfl, ?_⟩
    by_cases h4 : h < x
    · have q : Q (.bl (!(decide (h < x) || decide (x ∈ gone1)) && bitAt bits x)) M := q
      rw [decide_eq_true h4, Bool.true_or] at q
      exact yesd h4 (yes rfl ⟨M, Msub.refl M, q⟩)
    · have q : Q (.bl (!(decide (h < x) || decide (x ∈ gone1)) && bitAt bits x)) M := q
      rw [decide_eq_false h4, Bool.false_or] at q
      exact nod h4 ⟨_, _, _, rfl, c.c_Days, c.n_Days_out, rfl, flatI _, gone q⟩
theorem mk_has (c : Fx K mg) : ∀ C, C = He.ga K "Days" → MethK P w K mg base C "has" 5 2 (F_Days_has K) := fun C e => by
  subst e
  exact methK c.c_Days c.m_Days_has (kp_Days_has c)
end
end Tr

set_option Elab.async false
set_option linter.all false
set_option maxRecDepth 100000
set_option maxHeartbeats 4000000
namespace Tr
open PySem L2
open PyProof.Rows (sortedS risingS)
/-! ### texts in a row -/
def ltS (a b : Str) : Prop := a.cps.toList < b.cps.toList
theorem ltS_irr (a : Str) : ¬ ltS a a := List.lt_irrefl _
theorem ltS_tr {a b c : Str} (h : ltS a b) (k : ltS b c) : ltS a c := List.lt_trans h k
theorem ltS_tot {a b : Str} (h : ¬ ltS a b) (k : ¬ ltS b a) : a = b := by
  have e : a.cps.toList = b.cps.toList := List.le_antisymm (List.not_lt.mp k) (List.not_lt.mp h)
  have e2 : a.cps = b.cps := by
    rw [← Array.toArray_toList (xs := a.cps), ← Array.toArray_toList (xs := b.cps), e]
  cases a
  cases b
  cases e2
  rfl
theorem rising_lt : ∀ (p : Str) (l : List Str), risingS p l = true → (p :: l).Nodup → (p :: l).Pairwise ltS
  | p, [], _, _ => List.pairwise_singleton _ _
  | p, x :: r, h, nd => by
    have h2 : (!PySem.Spec.ltCps x.cps.toList p.cps.toList && risingS x r) = true := h
    rw [Bool.and_eq_true] at h2
    obtain ⟨a, b⟩ := h2
    obtain ⟨n1, n2⟩ := List.nodup_cons.mp nd
    have ih := rising_lt x r b n2
    have hx : ¬ ltS x p := fun z => by
      rw [PyProof.Rows.ltCps_eq, Bool.not_eq_true', decide_eq_false_iff_not] at a
      exact a z
    have px : ltS p x := Classical.byContradiction fun z => n1 (by rw [ltS_tot z hx]; exact List.mem_cons_self)
    refine List.pairwise_cons.mpr ⟨fun y hy => ?_, ih⟩
    rcases List.mem_cons.mp hy with e | e
    · rw [e]; exact px
    · exact ltS_tr px ((List.pairwise_cons.mp ih).1 y e)
theorem sorted_ltS : ∀ (l : List Str), sortedS l = true → l.Nodup → l.Pairwise ltS
  | [], _, _ => .nil
  | x :: r, h, nd => rising_lt x r h nd
theorem uniq {α : Type} {r : α → α → Prop} (irr : ∀ a, ¬ r a a) (tr : ∀ {a b c}, r a b → r b c → r a c) : ∀ (l m : List α), l.Pairwise r → m.Pairwise r → (∀ x, x ∈ l ↔ x ∈ m) → l = m
  | [], [], _, _, _ => rfl
  | [], b :: m, _, _, h => absurd ((h b).2 List.mem_cons_self) (by simp)
  | a :: l, [], _, _, h => absurd ((h a).1 List.mem_cons_self) (by simp)
  | a :: l, b :: m, p, q, h => by
    obtain ⟨p1, p2⟩ := List.pairwise_cons.mp p
    obtain ⟨q1, q2⟩ := List.pairwise_cons.mp q
    have e : a = b := by
      rcases List.mem_cons.mp ((h a).1 List.mem_cons_self) with e | e
      · exact e
      · rcases List.mem_cons.mp ((h b).2 List.mem_cons_self) with e2 | e2
        · exact e2.symm
        · exact absurd (tr (q1 a e) (p1 b e2)) (irr b)
    subst e
    rw [uniq irr tr l m p2 q2 fun x => ⟨fun z => ?_, fun z => ?_⟩]
    · rcases List.mem_cons.mp ((h x).1 (List.mem_cons_of_mem _ z)) with e | e
      · exact absurd (e ▸ p1 x z) (irr a)
      · exact e
    · rcases List.mem_cons.mp ((h x).2 (List.mem_cons_of_mem _ z)) with e | e
      · exact absurd (e ▸ q1 x z) (irr a)
      · exact e
/-- a text among texts in a row -/
def insU (x : Str) : List Str → List Str
  | [] => [x]
  | y :: r => if x.cps.toList < y.cps.toList then x :: y :: r else if y.cps.toList < x.cps.toList then y :: insU x r else y :: r
theorem insU_mem (x z : Str) : ∀ l : List Str, z ∈ insU x l ↔ z = x ∨ z ∈ l
  | [] => by simp [insU]
  | y :: r => by
    unfold insU
    split
    · simp
    · split
      · rw [List.mem_cons, insU_mem x z r, List.mem_cons]
        constructor
        · rintro (h | h | h)
          · exact .inr (.inl h)
          · exact .inl h
          · exact .inr (.inr h)
        · rintro (h | h | h)
          · exact .inr (.inl h)
          · exact .inl h
          · exact .inr (.inr h)
      · rename_i h1 h2
        have e := ltS_tot h1 h2
        subst e
        simp
theorem insU_row (x : Str) : ∀ l : List Str, l.Pairwise ltS → (insU x l).Pairwise ltS
  | [], _ => List.pairwise_singleton _ _
  | y :: r, h => by
    obtain ⟨h1, h2⟩ := List.pairwise_cons.mp h
    unfold insU
    split
    · rename_i lt
      refine List.pairwise_cons.mpr ⟨fun z hz => ?_, h⟩
      rcases List.mem_cons.mp hz with e | e
      · rw [e]; exact lt
      · exact ltS_tr lt (h1 z e)
    · split
      · rename_i lt
        refine List.pairwise_cons.mpr ⟨fun z hz => ?_, insU_row x r h2⟩
        rcases (insU_mem x z r).1 hz with e | e
        · rw [e]; exact lt
        · exact h1 z e
      · exact h
def uni : List Str → List Str
  | [] => []
  | x :: r => insU x (uni r)
theorem uni_mem (z : Str) : ∀ l : List Str, z ∈ uni l ↔ z ∈ l
  | [] => Iff.rfl
  | x :: r => by
    unfold uni
    rw [insU_mem, uni_mem z r, List.mem_cons]
theorem uni_row : ∀ l : List Str, (uni l).Pairwise ltS
  | [] => .nil
  | x :: r => insU_row x _ (uni_row r)
theorem uni_of {xs ms : List Str} (nd : ms.Nodup) (s : sortedS ms = true) (h : ∀ k, k ∈ ms ↔ k ∈ xs) : ms = uni xs :=
  uniq ltS_irr ltS_tr _ _ (sorted_ltS ms s nd) (uni_row xs) fun k => (h k).trans (uni_mem k xs).symm
theorem nodup_of_row {l : List Str} (h : l.Pairwise ltS) : l.Nodup := h.imp fun {a b} z e => by rw [e] at z; exact ltS_irr _ z
/-- sorted again: the same -/
theorem sorted_again {ms ws : List Str} (p : ms.Perm ws) (s : sortedS ms = true) (h : ws.Pairwise ltS) : ms = ws :=
  uniq ltS_irr ltS_tr _ _ (sorted_ltS ms s (p.nodup_iff.mpr (nodup_of_row h))) h fun k => p.mem_iff
end Tr

set_option Elab.async false
set_option linter.all false
set_option maxRecDepth 100000
set_option maxHeartbeats 4000000
namespace Tr
open PySem PySem.Spec L2

/-! ### words, lots -/
structure isW (x : Str) : Prop where
  lo : 1 ≤ x.cps.size
  hi : x.cps.size ≤ 8
  abc : ∀ c ∈ x.cps.toList, 97 ≤ c ∧ c ≤ 122
def lotT (ws : List Str) : T := .tup (strsT1 ws)
def noteT : Option (List Str) → T
  | none => .non
  | some ws => lotT ws
theorem letters : ("abcdefghijklmnopqrstuvwxyz" : Str).cps.toList = List.range' 97 26 := by decide +kernel
theorem letter_mem {c : Nat} (h : 97 ≤ c ∧ c ≤ 122) : c ∈ ("abcdefghijklmnopqrstuvwxyz" : Str).cps.toList := by
  rw [letters, List.mem_range'_1]
  omega
theorem nodup_len {α : Type} {l m : List α} (a : l.Nodup) (b : m.Nodup) (h : ∀ x, x ∈ l ↔ x ∈ m) : l.length = m.length :=
  ((List.perm_ext_iff_of_nodup a b).mpr h).length_eq
theorem nodup_map_inr {l : List Str} (h : l.Nodup) : (l.map (Sum.inr : Str → Key)).Nodup := List.pairwise_map.mpr (h.imp fun h e => h (Sum.inr.inj e))

section
variable {P : Program} {w : World} {K : PySem.W.Frag} {mg : Str → Option Value} {base : Heap}

def F_is_name : TSpec := fun ts M Q => ∃ x : Str, ts = [.str x] ∧ isW x ∧ Q (.bl true) M
theorem kp_is_name (c : Fx K mg) : Kp P w K mg base ("is_name", none) 1 1 (F_is_name) := by
  refine kp_def (d := d_is_name) c M_is_name S_is_name rfl (fun FD => FD.bindsN fun _ _ _ _ _ _ us hl => match us, hl with | [_], _ => rfl) fun cdv A outer s H E hr => ⟨_, (
    (qss_cons (qs_if (QW.qt (qw_or (qt_not (qt_val (qe_callB (ct_isik c) c.b_isinstance (qa_cons (qv 0) (qa_cons (qe_bty c.b_str rfl) qa_nil))))) (qw_or (qt_cmp ot_lt (qe_callB ct_lenS c.b_len (qa_cons (qv 0) qa_nil)) qe_int) (qw_or1 (qt_cmp ot_gt (qe_callB ct_lenS c.b_len (qa_cons (qv 0) qa_nil)) (qe_gint c.i_LONGEST_NAME))))))
      (qss_one (qs_ret qe_bl))
      qss_nil)
      (qss_one (qs_ret (qe_callB (ct_all rfl) c.b_all (qa_cons (qe_lc1 1 rfl S_is_name.nd (qi_str (qv 0)) (blkOk_by (by rfl)) (fun s H C cl fp => qts_nil) (fun s H C cl fp => (qe_cmp ot_inSign (qv 1) (qe_gstr c.s_NAME_SIGNS)))) qa_nil)))))), ?_⟩
  rintro ts M Q hl ⟨x, rfl, ⟨h1, h2, h3⟩, q⟩
  have e1 : x.length = x.cps.size := rfl
  refine ⟨_, _, rfl, nocls, kt_ss, no rfl ⟨by omega, nod (by omega) ⟨by omega, nod (by omega) ?_⟩⟩⟩
  refine lc_map (ts := chT x) (M1 := M) (fun _ => .bl true) kT (by rw [chT_len]; omega) (fun t ht => ?_) ?_
  · obtain ⟨k, hk, rfl⟩ := chT_mem ht
    refine ⟨_, rfl, fun Q' q' => ⟨k, rfl, ?_⟩⟩
    rw [decide_eq_true (letter_mem (h3 k hk))]
    exact q'
  · refine ⟨(chT x).map fun _ => true, by rw [List.map_map]; rfl, M, Msub.refl M, ?_⟩
    show Q (.bl (((chT x).map fun _ => true).all id)) M
    rw [all_true]
    exact q
def F_notes_of : TSpec := fun ts M Q => ∃ ws : List Str, ts = [.lst (strsT1 ws)] ∧ ws.Pairwise ltS ∧ (∀ x ∈ ws, isW x) ∧ ws.length < 64 ∧ Q (lotT ws) M
def F_notes_ofT : TSpec := fun ts M Q => ∃ ws : List Str, ts = [.tup (strsT1 ws)] ∧ ws.Pairwise ltS ∧ (∀ x ∈ ws, isW x) ∧ ws.length < 64 ∧ Q (lotT ws) M
theorem kp_notes_of (c : Fx K mg) : Kp P w K mg base ("notes_of", none) 2 1 (F_notes_of) := by
  have k_is_name := kp_is_name (P := P) (w := w) (base := base) c
  refine kp_def (d := d_notes_of) c M_notes_of S_notes_of rfl (fun FD => FD.bindsN fun _ _ _ _ _ _ us hl => match us, hl with | [_], _ => rfl) fun cdv A outer s H E hr => ⟨_, (
    (qss_cons (qs_if (qt_cmp ot_isN (qv 0) qe_non)
      (qss_one (qs_ret (qe_tup qa_nil)))
      qss_nil)
      (qss_cons (qs_if (QW.qt (qw_or (qt_not (qt_val (qe_callB (ct_isik c) c.b_isinstance (qa_cons (qv 0) (qa_cons (qe_tup (qa_cons (qe_bty c.b_list rfl) (qa_cons (qe_bty c.b_tuple rfl) qa_nil))) qa_nil))))) (qw_or1 (qt_not (qt_val (qe_callB (ct_all rfl) c.b_all (qa_cons (qe_lc1 1 rfl S_notes_of.nd (qi_lst (qv 0)) (blkOk_by (by rfl)) (fun s H C cl fp => qts_nil) (fun s H C cl fp => (qe_fn (k_is_name) (hr.mono (by decide)) c.g_is_name (qa_cons (qv 1) qa_nil)))) qa_nil)))))))
      (qss_one qs_never)
      qss_nil)
      (qss_cons (qs_if (qt_cmp ot_lt (qe_lenSet rfl (qv 0) (by rfl) c.b_len (by rfl) c.b_set) (qe_callB ct_len c.b_len (qa_cons (qv 0) qa_nil)))
      (qss_one qs_never)
      qss_nil)
      (qss_one (qs_ret (qe_callTy ct_tuple c.b_tuple (qa_cons (qe_callB ct_sortSq c.b_sorted (qa_cons (qv 0) qa_nil)) qa_nil)))))))), ?_⟩
  rintro ts M Q hl ⟨ws, rfl, hr, hw, h64, q⟩
  refine no rfl ⟨by decide, _, _, rfl, nocls, ka_l, no rfl ?_⟩
  refine lc_map (ts := strsT1 ws) (M1 := M) (fun _ => .bl true) kT (by rw [List.length_map]; omega) (fun t ht => ?_) ?_
  · obtain ⟨x, hx, rfl⟩ := List.mem_map.mp ht
    exact ⟨_, rfl, fun Q' q' => ⟨rfl, cl_of ⟨x, rfl, hw x hx, q'⟩⟩⟩
  refine ⟨ws.map fun _ => true, by rw [List.map_map, List.map_map]; rfl, no (by show (!((ws.map fun _ => true).all id)) = false; rw [all_true]; rfl) ?_⟩
  refine ⟨_, _, rfl, by rw [List.length_map]; omega, .inr ⟨ws, rfl, rfl⟩, fun ms nd mem => nod ?_ ?_⟩
  · have e := nodup_len nd (nodup_map_inr (nodup_of_row hr)) mem
    rw [List.length_map] at e
    rw [e, List.length_map]
    omega
  refine ⟨_, ws, rfl, rfl, h64, fun ms p s => ?_⟩
  rw [sorted_again p s hr]
  exact ⟨M, Msub.refl M, q⟩

theorem kp_notes_ofT (c : Fx K mg) : Kp P w K mg base ("notes_of", none) 2 1 (F_notes_ofT) := by
  have k_is_name := kp_is_name (P := P) (w := w) (base := base) c
  refine kp_def (d := d_notes_of) c M_notes_of S_notes_of rfl (fun FD => FD.bindsN fun _ _ _ _ _ _ us hl => match us, hl with | [_], _ => rfl) fun cdv A outer s H E hr => ⟨_, (
    (qss_cons (qs_if (qt_cmp ot_isN (qv 0) qe_non)
      (qss_one (qs_ret (qe_tup qa_nil)))
      qss_nil)
      (qss_cons (qs_if (QW.qt (qw_or (qt_not (qt_val (qe_callB (ct_isik c) c.b_isinstance (qa_cons (qv 0) (qa_cons (qe_tup (qa_cons (qe_bty c.b_list rfl) (qa_cons (qe_bty c.b_tuple rfl) qa_nil))) qa_nil))))) (qw_or1 (qt_not (qt_val (qe_callB (ct_all rfl) c.b_all (qa_cons (qe_lc1 1 rfl S_notes_of.nd (qi_tup (qv 0)) (blkOk_by (by rfl)) (fun s H C cl fp => qts_nil) (fun s H C cl fp => (qe_fn (k_is_name) (hr.mono (by decide)) c.g_is_name (qa_cons (qv 1) qa_nil)))) qa_nil)))))))
      (qss_one qs_never)
      qss_nil)
      (qss_cons (qs_if (qt_cmp ot_lt (qe_lenSet rfl (qv 0) (by rfl) c.b_len (by rfl) c.b_set) (qe_callB ct_len c.b_len (qa_cons (qv 0) qa_nil)))
      (qss_one qs_never)
      qss_nil)
      (qss_one (qs_ret (qe_callTy ct_tuple c.b_tuple (qa_cons (qe_callB ct_sortSq c.b_sorted (qa_cons (qv 0) qa_nil)) qa_nil)))))))), ?_⟩
  rintro ts M Q hl ⟨ws, rfl, hr, hw, h64, q⟩
  refine no rfl ⟨by decide, _, _, rfl, nocls, ka_t, no rfl ?_⟩
  refine lc_map (ts := strsT1 ws) (M1 := M) (fun _ => .bl true) kT (by rw [List.length_map]; omega) (fun t ht => ?_) ?_
  · obtain ⟨x, hx, rfl⟩ := List.mem_map.mp ht
    exact ⟨_, rfl, fun Q' q' => ⟨rfl, cl_of ⟨x, rfl, hw x hx, q'⟩⟩⟩
  refine ⟨ws.map fun _ => true, by rw [List.map_map, List.map_map]; rfl, no (by show (!((ws.map fun _ => true).all id)) = false; rw [all_true]; rfl) ?_⟩
  refine ⟨_, _, rfl, by rw [List.length_map]; omega, .inr ⟨ws, rfl, rfl⟩, fun ms nd mem => nod ?_ ?_⟩
  · have e := nodup_len nd (nodup_map_inr (nodup_of_row hr)) mem
    rw [List.length_map] at e
    rw [e, List.length_map]
    omega
  refine ⟨_, ws, rfl, rfl, h64, fun ms p s => ?_⟩
  rw [sorted_again p s hr]
  exact ⟨M, Msub.refl M, q⟩
def joinN : Option (List Str) → List Str → List Str
  | none, ys => ys
  | some xs, ys => uni (xs ++ ys)
def optLen : Option (List Str) → Nat
  | none => 0
  | some xs => xs.length
def F_notes_together : TSpec := fun ts M Q => ∃ o ys, ts = [noteT o, lotT ys] ∧ optLen o + ys.length < 64 ∧ Q (lotT (joinN o ys)) M
theorem kp_notes_together (c : Fx K mg) : Kp P w K mg base ("notes_together", none) 1 2 (F_notes_together) := by
  refine kp_def (d := d_notes_together) c M_notes_together S_notes_together rfl (fun FD => FD.bindsN fun _ _ _ _ _ _ us hl => match us, hl with | [_, _], _ => rfl) fun cdv A outer s H E hr => ⟨_, (
    (qss_cons (qs_if (qt_cmp ot_isN (qv 0) qe_non)
      (qss_one (qs_ret (qv 1)))
      qss_nil)
      (qss_one (qs_ret (qe_callTy ct_tuple c.b_tuple (qa_cons (qe_sortSet rfl (qe_op ot_catT (qv 0) (qv 1)) (by rfl) c.b_sorted (by rfl) c.b_set) qa_nil)))))), ?_⟩
  rintro ts M Q hl ⟨o, ys, rfl, h64, q⟩
  cases o with
  | none => exact yes rfl ⟨M, Msub.refl M, q⟩
  | some xs =>
    have h64 : xs.length + ys.length < 64 := h64
    refine no rfl ⟨by rw [List.length_map, List.length_map]; omega, _, rfl, by rw [List.length_append, List.length_map, List.length_map]; exact h64, .inr ⟨xs ++ ys, by rw [List.map_append], fun ms nd s mem => ?_⟩⟩
    rw [uni_of nd s mem]
    exact ⟨M, Msub.refl M, q⟩
def goingF (m : Int) (ws : List Str) : List (Str × T) := [fd "moment" (.int m), fd "notes" (lotT ws)]
def R_Going (args : List T) (fs : List (Str × T)) : Prop := ∃ (m : Int) (ws : List Str), args = [.int m, lotT ws] ∧ 0 ≤ m ∧ ws.Pairwise ltS ∧ (∀ x ∈ ws, isW x) ∧ ws.length < 64 ∧ fs = goingF m ws
def F_Going_init (K : PySem.W.Frag) : TSpec := FI (He.ga K "Going") R_Going
theorem kp_Going_init (c : Fx K mg) : Kp P w K mg base ("Going", some "__init__") 4 3 (F_Going_init K) := by
  have k_notes_of := kp_notes_ofT (P := P) (w := w) (base := base) c
  have k_want_moment := kp_want_moment (P := P) (w := w) (base := base) c
  refine kp_def (d := d_Going_init) c M_Going_init S_Going_init rfl (fun FD => binds_all FD (by exact List.cons_ne_nil _ _) fun _ _ _ _ _ _ _ us its hl h2 => match us, hl, its, h2 with | [_, _, _], _, [_], _ => ⟨_, rfl, rfl⟩) fun cdv A outer s H E hr => ⟨_, (
    (qss_cons (qs_expr (qe_fn (k_want_moment) (hr.mono (by decide)) c.g_want_moment (qa_cons (qv 1) qa_nil)))
      (qss_cons (qs_fldx (qv 0) (qv 1))
      (qss_one (qs_fldx (qv 0) (qe_fn (k_notes_of) (hr.mono (by decide)) c.g_notes_of (qa_cons (qv 2) qa_nil))))))), ?_⟩
  rintro ts M Q hl ⟨a, args, fs, rfl, hM, ⟨m, ws, rfl, h0, hr, hw, h64, rfl⟩, q⟩
  refine ⟨rfl, cl_of ⟨m, rfl, h0, a, _, _, rfl, hM, c.c_Going, c.n_Going_moment, few rfl, ?_⟩⟩
  refine ⟨rfl, cl_of ⟨ws, rfl, hr, hw, h64, a, _, _, rfl, mset_same, c.c_Going, c.n_Going_notes, few rfl, ?_⟩⟩
  simp only [mset_set]
  exact ⟨_, Msub.refl _, q⟩
def F_is_number : TSpec := fun ts M Q => ∃ i l : Int, ts = [.int i, .int l] ∧ Q (.bl (decide (l ≤ i))) M
theorem kp_is_number (c : Fx K mg) : Kp P w K mg base ("is_number", none) 1 2 (F_is_number) := by
  refine kp_def (d := d_is_number) c M_is_number S_is_number rfl (fun FD => FD.bindsN fun _ _ _ _ _ _ us hl => match us, hl with | [_, _], _ => rfl) fun cdv A outer s H E hr => ⟨_, (
    (qss_one (qs_ret (qe_and (qe_callB (ct_isik c) c.b_isinstance (qa_cons (qv 0) (qa_cons (qe_bty c.b_int rfl) qa_nil))) (qe_and (qe_not (qe_callB (ct_isik c) c.b_isinstance (qa_cons (qv 0) (qa_cons (qe_bty c.b_bool rfl) qa_nil)))) (qe_one (qe_cmp ot_ge (qv 0) (qv 1)))))))), ?_⟩
  rintro ts M Q hl ⟨i, l, rfl, q⟩
  exact ⟨_, _, rfl, nocls, kt_ii, yes rfl ⟨_, _, rfl, nocls, kt_ib, yes rfl ⟨M, Msub.refl M, q⟩⟩⟩
def atT (K : PySem.W.Frag) (m : Int) : T := .ins (He.ga K "At") [fd "moment" (.int m)]
def R_At (args : List T) (fs : List (Str × T)) : Prop := ∃ m : Int, args = [.int m] ∧ 0 ≤ m ∧ fs = [fd "moment" (.int m)]
def F_At_init (K : PySem.W.Frag) : TSpec := FI (He.ga K "At") R_At
theorem kp_At_init (c : Fx K mg) : Kp P w K mg base ("At", some "__init__") 2 2 (F_At_init K) := by
  have k_is_number := kp_is_number (P := P) (w := w) (base := base) c
  refine kp_def (d := d_At_init) c M_At_init S_At_init rfl (fun FD => FD.bindsN fun _ _ _ _ _ _ us hl => match us, hl with | [_, _], _ => rfl) fun cdv A outer s H E hr => ⟨_, (
    (qss_cons (qs_if (qt_not (qt_val (qe_fn (k_is_number) (hr.mono (by decide)) c.g_is_number (qa_cons (qv 1) (qa_cons qe_int qa_nil)))))
      (qss_one qs_never)
      qss_nil)
      (qss_one (qs_fldx (qv 0) (qv 1))))), ?_⟩
  rintro ts M Q hl ⟨a, args, fs, rfl, hM, ⟨m, rfl, h0, rfl⟩, q⟩
  refine ⟨rfl, cl_of ⟨m, 0, rfl, non h0 ?_⟩⟩
  exact ⟨a, _, _, rfl, hM, c.c_At, c.n_At_moment, few rfl, _, Msub.refl _, q⟩
def F_At_moments (K : PySem.W.Frag) : TSpec := fun ts M Q => ∃ m, ts = [atT K m] ∧ Q (.lst [.int m]) M
theorem kp_At_moments (c : Fx K mg) : Kp P w K mg base ("At", some "moments") 1 1 (F_At_moments K) := by
  refine kp_def (d := d_At_moments) c M_At_moments S_At_moments rfl (fun FD => FD.bindsN fun _ _ _ _ _ _ us hl => match us, hl with | [_], _ => rfl) fun cdv A outer s H E hr => ⟨_, (
    (qss_one (qs_ret (qe_lst (qa_cons (qe_fldk c (qv 0)) qa_nil))))), ?_⟩
  rintro ts M Q hl ⟨m, rfl, q⟩
  exact ⟨_, _, _, rfl, c.c_At, c.n_At_moment, rfl, Nat.le_of_ble_eq_true rfl, M, Msub.refl M, q⟩
theorem mk_moments (c : Fx K mg) : ∀ C, C = He.ga K "At" → MethK P w K mg base C "moments" 1 1 (F_At_moments K) := fun C e => by
  subst e
  exact methK c.c_At c.m_At_moments (kp_At_moments c)
def F_At_begins (K : PySem.W.Frag) : TSpec := fun ts M Q => ∃ m, ts = [atT K m] ∧ Q (.int m) M
theorem kp_At_begins (c : Fx K mg) : Kp P w K mg base ("At", some "begins") 1 1 (F_At_begins K) := by
  refine kp_def (d := d_At_begins) c M_At_begins S_At_begins rfl (fun FD => FD.bindsN fun _ _ _ _ _ _ us hl => match us, hl with | [_], _ => rfl) fun cdv A outer s H E hr => ⟨_, (
    (qss_one (qs_ret (qe_fldk c (qv 0))))), ?_⟩
  rintro ts M Q hl ⟨m, rfl, q⟩
  exact ⟨_, _, _, rfl, c.c_At, c.n_At_moment, rfl, M, Msub.refl M, q⟩
theorem mk_begins (c : Fx K mg) : ∀ C, C = He.ga K "At" → MethK P w K mg base C "begins" 1 1 (F_At_begins K) := fun C e => by
  subst e
  exact methK c.c_At c.m_At_begins (kp_At_begins c)

theorem kp_At_ends (c : Fx K mg) : Kp P w K mg base ("At", some "ends") 1 1 (F_At_begins K) := by
  refine kp_def (d := d_At_ends) c M_At_ends S_At_ends rfl (fun FD => FD.bindsN fun _ _ _ _ _ _ us hl => match us, hl with | [_], _ => rfl) fun cdv A outer s H E hr => ⟨_, (
    (qss_one (qs_ret (qe_fldk c (qv 0))))), ?_⟩
  rintro ts M Q hl ⟨m, rfl, q⟩
  exact ⟨_, _, _, rfl, c.c_At, c.n_At_moment, rfl, M, Msub.refl M, q⟩
theorem mk_ends (c : Fx K mg) : ∀ C, C = He.ga K "At" → MethK P w K mg base C "ends" 1 1 (F_At_begins K) := fun C e => by
  subst e
  exact methK c.c_At c.m_At_ends (kp_At_ends c)
def F_At_many (K : PySem.W.Frag) : TSpec := fun ts M Q => ∃ m, ts = [atT K m] ∧ Q (.int 1) M
theorem kp_At_means_many (c : Fx K mg) : Kp P w K mg base ("At", some "means_many") 1 1 (F_At_many K) := by
  refine kp_def (d := d_At_means_many) c M_At_means_many S_At_means_many rfl (fun FD => FD.bindsN fun _ _ _ _ _ _ us hl => match us, hl with | [_], _ => rfl) fun cdv A outer s H E hr => ⟨_, (
    (qss_one (qs_ret qe_int))), ?_⟩
  rintro ts M Q hl ⟨m, rfl, q⟩
  exact ⟨M, Msub.refl M, q⟩
theorem mk_means_many (c : Fx K mg) : ∀ C, C = He.ga K "At" → MethK P w K mg base C "means_many" 1 1 (F_At_many K) := fun C e => by
  subst e
  exact methK c.c_At c.m_At_means_many (kp_At_means_many c)
end
end Tr

set_option Elab.async false
set_option linter.all false
set_option maxRecDepth 100000
set_option maxHeartbeats 4000000
namespace Tr
open PySem PySem.Spec L2

/-! ### spots -/
structure Spots (s : List Int) : Prop where
  row : s.Pairwise (· < ·)
  nn : ∀ m ∈ s, 0 ≤ m
  few : s.length < 200
  hi : ∀ m ∈ s, m < 6000
def atsT (K : PySem.W.Frag) (s : List Int) : List T := s.map (atT K)
theorem zip_next {α : Type} {r : α → α → Prop} : ∀ {l : List α}, l.Pairwise r → ∀ p ∈ l.zip (l.drop 1), r p.1 p.2
  | [], _, p, h => by simp at h
  | [a], _, p, h => by simp at h
  | a :: b :: l, h, p, hp => by
    obtain ⟨h1, h2⟩ := List.pairwise_cons.mp h
    rw [List.drop_succ_cons, List.drop_zero, List.zip_cons_cons] at hp
    rcases List.mem_cons.mp hp with e | e
    · subst e
      exact h1 b List.mem_cons_self
    · exact zip_next h2 p (by rw [List.drop_succ_cons, List.drop_zero]; exact e)
theorem zip_ats {K : PySem.W.Frag} {s : List Int} (h : s.Pairwise (· < ·)) {t : T} (ht : t ∈ zipT (atsT K s) ((atsT K s).drop 1)) : ∃ a b, a < b ∧ t = .tup [atT K a, atT K b] := by
  obtain ⟨p, hp, e⟩ := List.mem_map.mp ht
  unfold atsT at hp
  rw [← List.map_drop, List.zip_map] at hp
  obtain ⟨q, hq, e2⟩ := List.mem_map.mp hp
  subst e2
  exact ⟨q.1, q.2, zip_next h q hq, e.symm⟩
theorem zipT_len (xs ys : List T) : (zipT xs ys).length ≤ xs.length := by
  unfold zipT
  rw [List.length_map, List.length_zip]
  exact Nat.min_le_left _ _

section
variable {P : Program} {w : World} {K : PySem.W.Frag} {mg : Str → Option Value} {base : Heap}

def F_all_rising (K : PySem.W.Frag) : TSpec := fun ts M Q => ∃ s, ts = [.tup (atsT K s)] ∧ Spots s ∧ Q (.bl true) M
theorem kp_all_rising (c : Fx K mg) : Kp P w K mg base ("all_rising", none) 2 1 (F_all_rising K) := by
  have m_begins := mk_begins (P := P) (w := w) (base := base) c
  have m_ends := mk_ends (P := P) (w := w) (base := base) c
  refine kp_def (d := d_all_rising) c M_all_rising S_all_rising rfl (fun FD => FD.bindsN fun _ _ _ _ _ _ us hl => match us, hl with | [_], _ => rfl) fun cdv A outer s H E hr => ⟨_, (
    (qss_one (qs_ret (qe_callB (ct_all rfl) c.b_all (qa_cons (qe_lc2 1 2 rfl S_all_rising.nd (qi_zip (qa_cons (qv 0) (qa_cons (qe_tail (qv 0) qe_int) qa_nil)) (by rfl) c.b_zip) (blkOk_by (by rfl)) (fun s H C cl fp => qts_nil) (fun s H C cl fp => (qe_cmp ot_lt (qe_meth0x (fun C e => (m_ends C e).ok (hr.mono (by omega))) (qv 1)) (qe_meth0x (fun C e => (m_begins C e).ok (hr.mono (by omega))) (qv 2))))) qa_nil))))), ?_⟩
  rintro ts M Q hl ⟨s, rfl, ok, q⟩
  have l1 : (atsT K s).length = s.length := List.length_map _
  refine ⟨rfl, ?_⟩
  refine lc_map (ts := zipT (atsT K s) ((atsT K s).drop 1)) (M1 := M) (fun _ => .bl true) kT (by have := zipT_len (atsT K s) ((atsT K s).drop 1); have := ok.few; omega) (fun t ht => ?_) ?_
  · obtain ⟨a, b, lt, rfl⟩ := zip_ats ok.row ht
    refine ⟨_, rfl, fun Q' q' => ⟨_, _, rfl, rfl, rfl, rfl, cl_of ⟨a, rfl, _, _, rfl, rfl, rfl, rfl, cl_of ⟨b, rfl, ?_⟩⟩⟩⟩
    show Q' (.bl (decide (a < b))) M
    rw [decide_eq_true lt]
    exact q'
  · refine ⟨(zipT (atsT K s) ((atsT K s).drop 1)).map fun _ => true, by rw [List.map_map]; rfl, M, Msub.refl M, ?_⟩
    show Q (.bl (((zipT (atsT K s) ((atsT K s).drop 1)).map fun _ => true).all id)) M
    rw [all_true]
    exact q
def F_shorts_in (K : PySem.W.Frag) : TSpec := fun ts M Q => ∃ s, ts = [.lst (atsT K s)] ∧ Spots s ∧ Q (.tup (atsT K s)) M
theorem kp_shorts_in (c : Fx K mg) : Kp P w K mg base ("shorts_in", none) 3 1 (F_shorts_in K) := by
  have k_all_rising := kp_all_rising (P := P) (w := w) (base := base) c
  refine kp_def (d := d_shorts_in) c M_shorts_in S_shorts_in rfl (fun FD => FD.bindsN fun _ _ _ _ _ _ us hl => match us, hl with | [_], _ => rfl) fun cdv A outer s H E hr => ⟨_, (
    (qss_cons (qs_if (qt_not (qt_val (qe_callB (ct_isik c) c.b_isinstance (qa_cons (qv 0) (qa_cons (qe_tup (qa_cons (qe_bty c.b_list rfl) (qa_cons (qe_bty c.b_tuple rfl) qa_nil))) qa_nil)))))
      (qss_one qs_never)
      qss_nil)
      (qss_cons (qs_set 1 S_shorts_in.nd (qe_callTy ct_tuple c.b_tuple (qa_cons (qv 0) qa_nil)))
      (qss_cons (qs_if (QW.qt (qw_or (qt_not (qt_val (qe_callB (ct_all rfl) c.b_all (qa_cons (qe_lc1 2 rfl S_shorts_in.nd (qi_tup (qv 1)) (blkOk_by (by rfl)) (fun s H C cl fp => qts_nil) (fun s H C cl fp => (qe_callB (ct_isik c) c.b_isinstance (qa_cons (qv 2) (qa_cons (qe_gref c.g_Short) qa_nil))))) qa_nil)))) (qw_or1 (qt_not (qt_val (qe_fn (k_all_rising) (hr.mono (by omega)) c.g_all_rising (qa_cons (qv 1) qa_nil)))))))
      (qss_one qs_never)
      qss_nil)
      (qss_one (qs_ret (qv 1))))))), ?_⟩
  rintro ts M Q hl ⟨s, rfl, ok, q⟩
  have l1 : (atsT K s).length = s.length := List.length_map _
  refine ⟨by decide, _, _, rfl, nocls, ka_l, no rfl ?_⟩
  refine lc_map (ts := atsT K s) (M1 := M) (fun _ => .bl true) kT (by have := ok.few; omega) (fun t ht => ?_) ?_
  · obtain ⟨m, hm, rfl⟩ := List.mem_map.mp ht
    exact ⟨_, rfl, fun Q' q' => ⟨_, _, rfl, onecls c.y_At, c.t_At_Short, q'⟩⟩
  refine ⟨(atsT K s).map fun _ => true, by rw [List.map_map]; rfl, no (by show (!(((atsT K s).map fun _ => true).all id)) = false; rw [all_true]; rfl) ?_⟩
  exact ⟨rfl, cl_of ⟨s, rfl, ok, no rfl ⟨M, Msub.refl M, q⟩⟩⟩
def F_row_moments (K : PySem.W.Frag) : TSpec := fun ts M Q => ∃ s, ts = [.tup (atsT K s)] ∧ Spots s ∧ Q (.lst (intsT s)) M
theorem kp_row_moments (c : Fx K mg) : Kp P w K mg base ("row_moments", none) 2 1 (F_row_moments K) := by
  have m_moments := mk_moments (P := P) (w := w) (base := base) c
  refine kp_def (d := d_row_moments) c M_row_moments S_row_moments rfl (fun FD => FD.bindsN fun _ _ _ _ _ _ us hl => match us, hl with | [_], _ => rfl) fun cdv A outer s H E hr => ⟨_, (
    (qss_cons (qs_set 1 S_row_moments.nd (qe_lstO qa_nil))
      (qss_cons (qs_for PassesOwn.never rfl (qi_tup (qv 0)) (qg_name 2 S_row_moments.nd)
      (qss_one (qs_expr (qe_extendx (qv 1) (qa_cons (qe_meth0x (fun C e => (m_moments C e).ok (hr.mono (by omega))) (qv 2)) qa_nil)))))
      (qss_one (qs_ret (qe_sealx (qv 1))))))), ?_⟩
  rintro ts M Q hl ⟨s, rfl, ok, q⟩
  refine ⟨Nat.le_of_ble_eq_true rfl, fun l hM => ?_⟩
  refine ⟨fun k s' M' => M' = mset M l (.lst (intsT (s.take k))) ∧ ∃ o, s' = [some (.tup (atsT K s)), some (.adr l), o], ⟨rfl, none, rfl⟩, fun _ _ _ _ => kT, ?_, ?_⟩
  · rintro k s' M' t et ⟨rfl, o, rfl⟩
    unfold atsT at et
    rw [List.getElem?_map] at et
    obtain ⟨m, hm, rfl⟩ := Option.map_eq_some_iff.mp et
    have ok' := ok.few
    refine ⟨⟨l, _, rfl, mset_same, trivial⟩, _, _, rfl, rfl, rfl, rfl, cl_of ⟨m, rfl, l, _, rfl, mset_same, [.int m], rfl, ?_, ?_, some (atT K m), rfl⟩⟩
    · rw [List.length_map, List.length_take]
      show min k s.length + 1 < 100000
      omega
    · rw [mset_set, take_next hm]
      unfold intsT
      rw [List.map_append]
      rfl
  · rintro s' M' ⟨rfl, o, rfl⟩
    refine ⟨l, _, rfl, mset_same, trivial, M, ?_, ?_⟩
    · rw [mdel_set hM]
      exact Msub.refl M
    · show Q (.lst (intsT (s.take (atsT K s).length))) M
      rw [show (atsT K s).length = s.length from List.length_map _, List.take_length]
      exact q
theorem sum_ones {α : Type} : ∀ l : List α, (l.map fun _ => (1 : Int)).sum = (l.length : Nat)
  | [] => rfl
  | x :: l => by
    rw [List.map_cons, List.sum_cons, sum_ones l, List.length_cons]
    omega
def F_row_many (K : PySem.W.Frag) : TSpec := fun ts M Q => ∃ s, ts = [.tup (atsT K s)] ∧ Spots s ∧ Q (.int (s.length : Nat)) M
theorem kp_row_many (c : Fx K mg) : Kp P w K mg base ("row_many", none) 2 1 (F_row_many K) := by
  have m_means_many := mk_means_many (P := P) (w := w) (base := base) c
  refine kp_def (d := d_row_many) c M_row_many S_row_many rfl (fun FD => FD.bindsN fun _ _ _ _ _ _ us hl => match us, hl with | [_], _ => rfl) fun cdv A outer s H E hr => ⟨_, (
    (qss_one (qs_ret (qe_callB (ct_sum rfl) c.b_sum (qa_cons (qe_lc1 1 rfl S_row_many.nd (qi_tup (qv 0)) (blkOk_by (by rfl)) (fun s H C cl fp => qts_nil) (fun s H C cl fp => (qe_meth0x (fun C e => (m_means_many C e).ok (hr.mono (by omega))) (qv 1)))) qa_nil))))), ?_⟩
  rintro ts M Q hl ⟨s, rfl, ok, q⟩
  have l1 : (atsT K s).length = s.length := List.length_map _
  refine lc_map (ts := atsT K s) (M1 := M) (fun _ => .int 1) kT (by have := ok.few; omega) (fun t ht => ?_) ?_
  · obtain ⟨m, hm, rfl⟩ := List.mem_map.mp ht
    exact ⟨_, rfl, fun Q' q' => ⟨_, _, rfl, rfl, rfl, rfl, cl_of ⟨m, rfl, q'⟩⟩⟩
  refine ⟨(atsT K s).map fun _ => 1, by rw [List.map_map]; rfl, M, Msub.refl M, ?_⟩
  rw [sum_ones, l1]
  exact q
def spreadF (K : PySem.W.Frag) (s : List Int) : List (Str × T) := [fd "kept" (.tup (atsT K s)), fd "held" (.lst (intsT s))]
def spreadT (K : PySem.W.Frag) (s : List Int) : T := .ins (He.ga K "Spread") (spreadF K s)
def R_Spread (K : PySem.W.Frag) (args : List T) (fs : List (Str × T)) : Prop := ∃ s, args = [.lst (atsT K s)] ∧ Spots s ∧ fs = spreadF K s
def F_Spread_init (K : PySem.W.Frag) : TSpec := FI (He.ga K "Spread") (R_Spread K)
theorem kp_Spread_init (c : Fx K mg) : Kp P w K mg base ("Spread", some "__init__") 4 2 (F_Spread_init K) := by
  have k_row_many := kp_row_many (P := P) (w := w) (base := base) c
  have k_row_moments := kp_row_moments (P := P) (w := w) (base := base) c
  have k_shorts_in := kp_shorts_in (P := P) (w := w) (base := base) c
  refine kp_def (d := d_Spread_init) c M_Spread_init S_Spread_init rfl (fun FD => FD.bindsN fun _ _ _ _ _ _ us hl => match us, hl with | [_, _], _ => rfl) fun cdv A outer s H E hr => ⟨_, (
    (qss_cons (qs_fldx (qv 0) (qe_fn (k_shorts_in) (hr.mono (by omega)) c.g_shorts_in (qa_cons (qv 1) qa_nil)))
      (qss_cons (qs_if (qt_cmp ot_gt (qe_fn (k_row_many) (hr.mono (by omega)) c.g_row_many (qa_cons (qe_fldk c (qv 0)) qa_nil)) (qe_gint c.i_MOST_MOMENTS))
      (qss_one qs_never)
      qss_nil)
      (qss_one (qs_fldx (qv 0) (qe_fn (k_row_moments) (hr.mono (by omega)) c.g_row_moments (qa_cons (qe_fldk c (qv 0)) qa_nil))))))), ?_⟩
  rintro ts M Q hl ⟨a, args, fs, rfl, hM, ⟨s, rfl, ok, rfl⟩, q⟩
  refine ⟨rfl, cl_of ⟨s, rfl, ok, a, _, _, rfl, hM, c.c_Spread, c.n_Spread_kept, few rfl, ?_⟩⟩
  refine ⟨_, _, _, mset_same, c.c_Spread, c.n_Spread_kept, rfl, rfl, cl_of ⟨s, rfl, ok, nod (by have := ok.few; omega) ?_⟩⟩
  refine ⟨_, _, _, mset_same, c.c_Spread, c.n_Spread_kept, rfl, rfl, cl_of ⟨s, rfl, ok, a, _, _, rfl, mset_same, c.c_Spread, c.n_Spread_held, few rfl, ?_⟩⟩
  simp only [mset_set]
  exact ⟨_, Msub.refl _, q⟩
def F_Spread_moments (K : PySem.W.Frag) : TSpec := fun ts M Q => ∃ s, ts = [spreadT K s] ∧ Q (.lst (intsT s)) M
theorem kp_Spread_moments (c : Fx K mg) : Kp P w K mg base ("Spread", some "moments") 1 1 (F_Spread_moments K) := by
  refine kp_def (d := d_Spread_moments) c M_Spread_moments S_Spread_moments rfl (fun FD => FD.bindsN fun _ _ _ _ _ _ us hl => match us, hl with | [_], _ => rfl) fun cdv A outer s H E hr => ⟨_, (
    (qss_one (qs_ret (qe_callTy ct_list c.b_list (qa_cons (qe_fldk c (qv 0)) qa_nil))))), ?_⟩
  rintro ts M Q hl ⟨s, rfl, q⟩
  exact ⟨_, _, _, rfl, c.c_Spread, c.n_Spread_held, rfl, M, Msub.refl M, q⟩
theorem mk_spm (c : Fx K mg) : ∀ C, C = He.ga K "Spread" → MethK P w K mg base C "moments" 1 1 (F_Spread_moments K) := fun C e => by
  subst e
  exact methK c.c_Spread c.m_Spread_moments (kp_Spread_moments c)
def F_want : TSpec := fun ts M Q => ∃ b z, ts = [.bl b, .str z] ∧ b = true ∧ Q .non M
theorem kp_want (c : Fx K mg) : Kp P w K mg base ("want", none) 1 2 (F_want) := by
  refine kp_def (d := d_want) c M_want S_want rfl (fun FD => FD.bindsN fun _ _ _ _ _ _ us hl => match us, hl with | [_, _], _ => rfl) fun cdv A outer s H E hr => ⟨_, (
    (qss_one (qs_if (qt_not (qt_val (qv 0)))
      (qss_one qs_never)
      qss_nil))), ?_⟩
  rintro ts M Q hl ⟨b, z, rfl, rfl, q⟩
  exact no rfl ⟨M, Msub.refl M, q⟩
end
end Tr

set_option Elab.async false
set_option linter.all false
set_option maxRecDepth 100000
set_option maxHeartbeats 4000000
namespace Tr
open PySem PySem.Spec L2

/-! ### cards -/
inductive LC where
  | once (s : List Int) (l : List Str) | every (d : LD) (s : List Int) (l : List Str) | as (n : Str)
  | later (c : LC) (m : Int) | noted (c : LC) (w : Str) | less (a b : LC) | swap (a : LC) (d : LD) (b : LC) | join (a b : LC)
namespace LC
def kids : LC → List LC
  | once _ _ => []
  | every _ _ _ => []
  | as _ => []
  | later c _ => [c]
  | noted c _ => [c]
  | less a b => [a, b]
  | swap a _ b => [a, b]
  | join a b => [a, b]
def wt : LC → Nat
  | once _ _ => 1
  | every _ _ _ => 1
  | as _ => 1
  | later c _ => 1 + wt c
  | noted c _ => 1 + wt c
  | less a b => 1 + (wt a + wt b)
  | swap a _ b => 1 + (wt a + wt b)
  | join a b => 1 + (wt a + wt b)
end LC
structure Lot (l : List Str) : Prop where
  row : l.Pairwise ltS
  wd : ∀ x ∈ l, isW x
  few : l.length ≤ 2
def okC : LC → Prop
  | .once s l => Spots s ∧ s ≠ [] ∧ Lot l
  | .every d s l => d.Ok ∧ Spots s ∧ s ≠ [] ∧ s.length ≤ 3 ∧ (∀ m ∈ s, m < 1440) ∧ Lot l
  | .as n => isW n
  | .later c m => okC c ∧ 0 ≤ m ∧ m ≤ 10080
  | .noted c w => okC c ∧ isW w
  | .less a b => okC a ∧ okC b
  | .swap a d b => okC a ∧ d.Ok ∧ okC b
  | .join a b => okC a ∧ okC b
def baseF (held : List T) (n : Nat) : List (Str × T) := [fd "held" (.lst held), fd "weight" (.int (n : Int))]
def ownD (s : List Int) : List (Key × T) := s.map fun m => (Sum.inl m, T.bl true)
def onceF (K : PySem.W.Frag) (s : List Int) (l : List Str) : List (Str × T) := baseF [] 1 ++ [fd "spread" (spreadT K s), fd "notes" (lotT l), fd "own" (.dic (ownD s))]
def everyF (K : PySem.W.Frag) (d : LD) (s : List Int) (l : List Str) : List (Str × T) := baseF [] 1 ++ [fd "days" (daysT K d), fd "spread" (spreadT K s), fd "notes" (lotT l), fd "own" (.dic (ownD s))]
def pcT (K : PySem.W.Frag) : LC → T
  | .once s l => .ins (He.ga K "Once") (onceF K s l)
  | .every d s l => .ins (He.ga K "Every") (everyF K d s l)
  | .as n => .ins (He.ga K "As") (baseF [] 1 ++ [fd "name" (.str n)])
  | .later c m => .ins (He.ga K "Later") (baseF [pcT K c] (1 + c.wt) ++ [fd "minutes" (.int m)])
  | .noted c w => .ins (He.ga K "Noted") (baseF [pcT K c] (1 + c.wt) ++ [fd "note" (.str w)])
  | .less a b => .ins (He.ga K "Less") (baseF [pcT K a, pcT K b] (1 + (a.wt + b.wt)))
  | .swap a d b => .ins (He.ga K "Swap") (baseF [pcT K a, pcT K b] (1 + (a.wt + b.wt)) ++ [fd "days" (daysT K d)])
  | .join a b => .ins (He.ga K "Join") (baseF [pcT K a, pcT K b] (1 + (a.wt + b.wt)))
def pcsT (K : PySem.W.Frag) (cs : List LC) : List T := cs.map (pcT K)
/-- the classes of cards -/
inductive IsC (K : PySem.W.Frag) : Addr → Prop where
  | once : IsC K (He.ga K "Once") | every : IsC K (He.ga K "Every") | as : IsC K (He.ga K "As") | later : IsC K (He.ga K "Later")
  | noted : IsC K (He.ga K "Noted") | less : IsC K (He.ga K "Less") | swap : IsC K (He.ga K "Swap") | join : IsC K (He.ga K "Join")
structure CardI (K : PySem.W.Frag) (C : Addr) : Prop where
  cl : Cls K C
  ty : InsTy K C
  held : NoAttr K C "held"
  weight : NoAttr K C "weight"
  kit : PySem.W.kitOne K (.ref C) (.ref (He.ga K "Card")) = some true
theorem IsC.i {K : PySem.W.Frag} {mg : Str → Option Value} (c : Fx K mg) {C : Addr} (h : IsC K C) : CardI K C := by
  cases h with
  | once => exact ⟨c.c_Once, c.y_Once, c.n_Once_held, c.n_Once_weight, c.t_Once_Card⟩
  | every => exact ⟨c.c_Every, c.y_Every, c.n_Every_held, c.n_Every_weight, c.t_Every_Card⟩
  | as => exact ⟨c.c_As, c.y_As, c.n_As_held, c.n_As_weight, c.t_As_Card⟩
  | later => exact ⟨c.c_Later, c.y_Later, c.n_Later_held, c.n_Later_weight, c.t_Later_Card⟩
  | noted => exact ⟨c.c_Noted, c.y_Noted, c.n_Noted_held, c.n_Noted_weight, c.t_Noted_Card⟩
  | less => exact ⟨c.c_Less, c.y_Less, c.n_Less_held, c.n_Less_weight, c.t_Less_Card⟩
  | swap => exact ⟨c.c_Swap, c.y_Swap, c.n_Swap_held, c.n_Swap_weight, c.t_Swap_Card⟩
  | join => exact ⟨c.c_Join, c.y_Join, c.n_Join_held, c.n_Join_weight, c.t_Join_Card⟩
structure PcI (K : PySem.W.Frag) (d : LC) (C : Addr) (fs : List (Str × T)) : Prop where
  is_ : IsC K C
  held : fs.lookup ("held" : Str) = some (.lst (pcsT K d.kids))
  weight : fs.lookup ("weight" : Str) = some (.int (d.wt : Nat))
  inner : fs.lookup ("inner" : Str) = none
  size : fs.lookup ("size" : Str) = none
  notes : fs.lookup ("notes_at" : Str) = none
theorem pc_i {K : PySem.W.Frag} (d : LC) : ∃ C fs, pcT K d = .ins C fs ∧ PcI K d C fs := by
  cases d with
  | once s l => exact ⟨_, _, rfl, .once, rfl, rfl, rfl, rfl, rfl⟩
  | every d s l => exact ⟨_, _, rfl, .every, rfl, rfl, rfl, rfl, rfl⟩
  | as n => exact ⟨_, _, rfl, .as, rfl, rfl, rfl, rfl, rfl⟩
  | later c m => exact ⟨_, _, rfl, .later, rfl, rfl, rfl, rfl, rfl⟩
  | noted c w => exact ⟨_, _, rfl, .noted, rfl, rfl, rfl, rfl, rfl⟩
  | less a b => exact ⟨_, _, rfl, .less, rfl, rfl, rfl, rfl, rfl⟩
  | swap a d b => exact ⟨_, _, rfl, .swap, rfl, rfl, rfl, rfl, rfl⟩
  | join a b => exact ⟨_, _, rfl, .join, rfl, rfl, rfl, rfl, rfl⟩
def wtT : T → T
  | .ins _ fs => (fs.lookup ("weight" : Str)).getD .non
  | _ => .non
theorem wtT_pc (K : PySem.W.Frag) (d : LC) : wtT (pcT K d) = .int (d.wt : Nat) := by
  obtain ⟨C, fs, e, i⟩ := pc_i (K := K) d
  rw [e]
  show (fs.lookup ("weight" : Str)).getD .non = _
  rw [i.weight]
  rfl
theorem wt_sum (cs : List LC) : (cs.map fun d => ((d.wt : Nat) : Int)).sum = (((cs.map LC.wt).sum : Nat) : Int) := by
  induction cs with
  | nil => rfl
  | cons d cs ih =>
    rw [List.map_cons, List.sum_cons, List.map_cons, List.sum_cons, ih]
    omega

section
variable {P : Program} {w : World} {K : PySem.W.Frag} {mg : Str → Option Value} {base : Heap}

def F_Card_init (K : PySem.W.Frag) : TSpec := fun ts M Q => ∃ a C cs, ts = [.adr a, .lst (pcsT K cs)] ∧ M a = some (.ins C []) ∧ IsC K C ∧ cs.length < 100 ∧ 1 + (cs.map LC.wt).sum ≤ 60 ∧ Q .non (mset M a (.ins C (baseF (pcsT K cs) (1 + (cs.map LC.wt).sum))))
theorem kp_Card_init (c : Fx K mg) : Kp P w K mg base ("Card", some "__init__") 2 2 (F_Card_init K) := by
  have k_want := kp_want (P := P) (w := w) (base := base) c
  refine kp_def (d := d_Card_init) c M_Card_init S_Card_init rfl (fun FD => FD.bindsN fun _ _ _ _ _ _ us hl => match us, hl with | [_, _], _ => rfl) fun cdv A outer s H E hr => ⟨_, (
    (qss_cons (qs_expr (qe_fn (k_want) (hr.mono (by decide)) c.g_want (qa_cons (qe_callB (ct_all rfl) c.b_all (qa_cons (qe_lc1 2 rfl S_Card_init.nd (qi_lst (qv 1)) (blkOk_by (by rfl)) (fun s H C cl fp => qts_nil) (fun s H C cl fp => (qe_callB (ct_isik c) c.b_isinstance (qa_cons (qv 2) (qa_cons (qe_gref c.g_Card) qa_nil))))) qa_nil)) (qa_cons qe_str qa_nil))))
      (qss_cons (qs_fldx (qv 0) (qe_callTy ct_list c.b_list (qa_cons (qv 1) qa_nil)))
      (qss_cons (qs_fldx (qv 0) (qe_op ot_add qe_int (qe_callB (ct_sum rfl) c.b_sum (qa_cons (qe_lc1 2 rfl S_Card_init.nd (qi_lst (qv 1)) (blkOk_by (by rfl)) (fun s H C cl fp => qts_nil) (fun s H C cl fp => (qe_fldk c (qv 2)))) qa_nil))))
      (qss_one (qs_expr (qe_fn (k_want) (hr.mono (by decide)) c.g_want (qa_cons (qe_cmp ot_le (qe_fldk c (qv 0)) (qe_gint c.i_MOST_CARDS)) (qa_cons qe_str qa_nil))))))))), ?_⟩
  rintro ts M Q hl ⟨a, C, cs, rfl, hM, hC, hz, h60, q⟩
  have i := hC.i c
  have l1 : (pcsT K cs).length = cs.length := List.length_map _
  refine lc_map (ts := pcsT K cs) (M1 := M) (fun _ => .bl true) kT (by omega) (fun t ht => ?_) ?_
  · obtain ⟨d, hd, rfl⟩ := List.mem_map.mp ht
    obtain ⟨C', fs', e, i'⟩ := pc_i (K := K) d
    rw [e]
    exact ⟨_, rfl, fun Q' q' => ⟨_, _, rfl, onecls (i'.is_.i c).ty, (i'.is_.i c).kit, q'⟩⟩
  refine ⟨(pcsT K cs).map fun _ => true, by rw [List.map_map]; rfl, rfl, cl_of ⟨_, _, rfl, all_true _, ?_⟩⟩
  refine ⟨a, _, _, rfl, hM, i.cl, i.held, few rfl, ?_⟩
  refine lc_map (ts := pcsT K cs) wtT kT (by omega) (fun t ht => ?_) ?_
  · obtain ⟨d, hd, rfl⟩ := List.mem_map.mp ht
    obtain ⟨C', fs', e, i'⟩ := pc_i (K := K) d
    rw [wtT_pc, e]
    exact ⟨_, rfl, fun Q' q' => ⟨_, _, _, rfl, (i'.is_.i c).cl, (i'.is_.i c).weight, i'.weight, q'⟩⟩
  refine ⟨cs.map fun d => ((d.wt : Nat) : Int), ?_, a, _, _, rfl, mset_same, i.cl, i.weight, few rfl, ?_⟩
  · unfold pcsT
    rw [List.map_map, List.map_map]
    exact List.map_congr_left fun d _ => wtT_pc K d
  rw [wt_sum]
  have e60 : (1 : Int) + (((cs.map LC.wt).sum : Nat) : Int) = ((1 + (cs.map LC.wt).sum : Nat) : Int) := by omega
  dsimp only
  rw [e60]
  simp only [mset_set]
  refine ⟨_, _, _, mset_same, i.cl, i.weight, rfl, rfl, cl_of ⟨_, _, rfl, decide_eq_true (by omega), ?_⟩⟩
  exact ⟨_, Msub.refl _, q⟩
def F_Card_inner (K : PySem.W.Frag) : TSpec := fun ts M Q => ∃ d, ts = [pcT K d] ∧ Q (.lst (pcsT K d.kids)) M
theorem kp_Card_inner (c : Fx K mg) : Kp P w K mg base ("Card", some "inner") 1 1 (F_Card_inner K) := by
  refine kp_def (d := d_Card_inner) c M_Card_inner S_Card_inner rfl (fun FD => FD.bindsN fun _ _ _ _ _ _ us hl => match us, hl with | [_], _ => rfl) fun cdv A outer s H E hr => ⟨_, (
    (qss_one (qs_ret (qe_callTy ct_list c.b_list (qa_cons (qe_fldk c (qv 0)) qa_nil))))), ?_⟩
  rintro ts M Q hl ⟨d, rfl, q⟩
  obtain ⟨C, fs, e, i⟩ := pc_i (K := K) d
  rw [e]
  exact ⟨_, _, _, rfl, (i.is_.i c).cl, (i.is_.i c).held, i.held, M, Msub.refl M, q⟩
def F_Card_size (K : PySem.W.Frag) : TSpec := fun ts M Q => ∃ d, ts = [pcT K d] ∧ Q (.int (d.wt : Nat)) M
theorem kp_Card_size (c : Fx K mg) : Kp P w K mg base ("Card", some "size") 1 1 (F_Card_size K) := by
  refine kp_def (d := d_Card_size) c M_Card_size S_Card_size rfl (fun FD => FD.bindsN fun _ _ _ _ _ _ us hl => match us, hl with | [_], _ => rfl) fun cdv A outer s H E hr => ⟨_, (
    (qss_one (qs_ret (qe_fldk c (qv 0))))), ?_⟩
  rintro ts M Q hl ⟨d, rfl, q⟩
  obtain ⟨C, fs, e, i⟩ := pc_i (K := K) d
  rw [e]
  exact ⟨_, _, _, rfl, (i.is_.i c).cl, (i.is_.i c).weight, i.weight, M, Msub.refl M, q⟩
end
section
variable {P : Program} {w : World} {K : PySem.W.Frag} {mg : Str → Option Value} {base : Heap}
theorem mk_inner (c : Fx K mg) : ∀ C, IsC K C → MethK P w K mg base C "inner" 1 1 (F_Card_inner K) := fun C h => by
  cases h with
  | once => exact methKB c.c_Once c.m_Once_inner c.a_Once.1 (kp_Card_inner c)
  | every => exact methKB c.c_Every c.m_Every_inner c.a_Every.1 (kp_Card_inner c)
  | as => exact methKB c.c_As c.m_As_inner c.a_As.1 (kp_Card_inner c)
  | later => exact methKB c.c_Later c.m_Later_inner c.a_Later.1 (kp_Card_inner c)
  | noted => exact methKB c.c_Noted c.m_Noted_inner c.a_Noted.1 (kp_Card_inner c)
  | less => exact methKB c.c_Less c.m_Less_inner c.a_Less.1 (kp_Card_inner c)
  | swap => exact methKB c.c_Swap c.m_Swap_inner c.a_Swap.1 (kp_Card_inner c)
  | join => exact methKB c.c_Join c.m_Join_inner c.a_Join.1 (kp_Card_inner c)
theorem mk_size (c : Fx K mg) : ∀ C, IsC K C → MethK P w K mg base C "size" 1 1 (F_Card_size K) := fun C h => by
  cases h with
  | once => exact methKB c.c_Once c.m_Once_size c.a_Once.2 (kp_Card_size c)
  | every => exact methKB c.c_Every c.m_Every_size c.a_Every.2 (kp_Card_size c)
  | as => exact methKB c.c_As c.m_As_size c.a_As.2 (kp_Card_size c)
  | later => exact methKB c.c_Later c.m_Later_size c.a_Later.2 (kp_Card_size c)
  | noted => exact methKB c.c_Noted c.m_Noted_size c.a_Noted.2 (kp_Card_size c)
  | less => exact methKB c.c_Less c.m_Less_size c.a_Less.2 (kp_Card_size c)
  | swap => exact methKB c.c_Swap c.m_Swap_size c.a_Swap.2 (kp_Card_size c)
  | join => exact methKB c.c_Join c.m_Join_size c.a_Join.2 (kp_Card_size c)
end
theorem kput_new {k : Key} {t : T} : ∀ {kvs : List (Key × T)}, k ∉ kvs.map (·.1) → kput k t kvs = kvs ++ [(k, t)] := fun {kvs} h => by
  unfold kput
  rw [if_neg]
  intro z
  obtain ⟨p, hp, e⟩ := List.any_eq_true.mp z
  exact h (List.mem_map.mpr ⟨p, hp, of_decide_eq_true e⟩)
theorem kmerge_new : ∀ (ps acc : List (Key × T)), (ps.map (·.1)).Nodup → (∀ k ∈ ps.map (·.1), k ∉ acc.map (·.1)) → kmerge acc ps = acc ++ ps
  | [], acc, _, _ => by rw [List.append_nil]; rfl
  | (k, t) :: ps, acc, nd, h => by
    obtain ⟨n1, n2⟩ := List.nodup_cons.mp nd
    show kmerge (kput k t acc) ps = _
    rw [kput_new (h k List.mem_cons_self), kmerge_new ps _ n2 fun j hj => ?_, List.append_assoc, List.singleton_append]
    rw [List.map_append, List.mem_append]
    rintro (z | z)
    · exact h j (List.mem_cons_of_mem _ hj) z
    · have e : j = k := by simpa using z
      exact n1 (e ▸ hj)
theorem own_merge {s : List Int} (h : s.Pairwise (· < ·)) : kmerge [] (ownD s) = ownD s := by
  have e : (ownD s).map (·.1) = s.map Sum.inl := by unfold ownD; rw [List.map_map]; rfl
  refine kmerge_new _ _ ?_ fun k _ => by simp
  rw [e]
  exact List.pairwise_map.mpr (h.imp fun {a b} lt e => by have := Sum.inl.inj e; omega)
section
variable {P : Program} {w : World} {K : PySem.W.Frag} {mg : Str → Option Value} {base : Heap}

def R_Once (K : PySem.W.Frag) (args : List T) (fs : List (Str × T)) : Prop := ∃ s l, args = [spreadT K s, .lst (strsT1 l)] ∧ Spots s ∧ Lot l ∧ fs = onceF K s l
def F_Once_init (K : PySem.W.Frag) : TSpec := FI (He.ga K "Once") (R_Once K)
theorem kp_Once_init (c : Fx K mg) : Kp P w K mg base ("Once", some "__init__") 4 3 (F_Once_init K) := by
  have k_Card_init := kp_Card_init (P := P) (w := w) (base := base) c
  have k_notes_of := kp_notes_of (P := P) (w := w) (base := base) c
  have k_want := kp_want (P := P) (w := w) (base := base) c
  have m_moments := mk_spm (P := P) (w := w) (base := base) c
  refine kp_def (d := d_Once_init) c M_Once_init S_Once_init rfl (fun FD => binds_all FD (by exact List.cons_ne_nil _ _) fun _ _ _ _ _ _ _ us its hl h2 => match us, hl, its, h2 with | [_, _, _], _, [_], _ => ⟨_, rfl, rfl⟩) fun cdv A outer s H E hr => ⟨_, (
    (qss_cons (qs_expr (qe_fn (k_want) (hr.mono (by decide)) c.g_want (qa_cons (qe_callB (ct_isik c) c.b_isinstance (qa_cons (qv 1) (qa_cons (qe_gref c.g_Spread) qa_nil))) (qa_cons qe_str qa_nil))))
      (qss_cons (qs_expr (qe_cbase c (k_Card_init) (hr.mono (by decide)) (qa_cons (qv 0) (qa_cons (qe_lst qa_nil) qa_nil))))
      (qss_cons (qs_fldx (qv 0) (qv 1))
      (qss_cons (qs_fldx (qv 0) (qe_fn (k_notes_of) (hr.mono (by decide)) c.g_notes_of (qa_cons (qv 2) qa_nil)))
      (qss_one (qs_fldx (qv 0) (qe_callTy (ct_dictP rfl) c.b_dict (qa_cons (qe_lc1 3 rfl S_Once_init.nd (qi_lst (qe_meth0x (fun C e => (m_moments C e).ok (hr.mono (by decide))) (qv 1))) (blkOk_by (by rfl)) (fun s H C cl fp => qts_nil) (fun s H C cl fp => (qe_tup (qa_cons (qv 3) (qa_cons qe_bl qa_nil))))) qa_nil))))))))), ?_⟩
  rintro ts M Q hl ⟨a, args, fs, rfl, hM, ⟨s, l, rfl, ok, lot, rfl⟩, q⟩
  have l1 := ok.few
  refine ⟨_, _, rfl, onecls c.y_Spread, c.t_Spread_Spread, rfl, cl_of ⟨_, _, rfl, rfl, ?_⟩⟩
  refine ⟨Nat.le_of_ble_eq_true rfl, rfl, cl_of ⟨a, _, [], rfl, hM, .once, by decide, by decide, ?_⟩⟩
  refine ⟨a, _, _, rfl, mset_same, c.c_Once, c.n_Once_spread, few rfl, ?_⟩
  refine ⟨rfl, cl_of ⟨l, rfl, lot.row, lot.wd, by have := lot.few; omega, a, _, _, rfl, mset_same, c.c_Once, c.n_Once_notes, few rfl, ?_⟩⟩
  refine ⟨_, _, rfl, rfl, rfl, rfl, cl_of ⟨s, rfl, ?_⟩⟩
  refine lc_map (ts := intsT s) (fun t => .tup [t, .bl true]) kT (by rw [List.length_map]; omega) (fun t ht => ?_) ?_
  · obtain ⟨m, hm, rfl⟩ := List.mem_map.mp ht
    exact ⟨_, rfl, fun Q' q' => ⟨Nat.le_of_ble_eq_true rfl, q'⟩⟩
  refine ⟨ownD s, by unfold intsT ownD; rw [List.map_map, List.map_map]; rfl, ?_⟩
  rw [own_merge ok.row]
  refine ⟨a, _, _, rfl, mset_same, c.c_Once, c.n_Once_own, few rfl, ?_⟩
  simp only [mset_set]
  exact ⟨_, Msub.refl _, q⟩
end
end Tr

set_option Elab.async false
set_option linter.all false
set_option maxRecDepth 100000
set_option maxHeartbeats 4000000
namespace Tr
open PySem PySem.Spec L2


section
variable {P : Program} {w : World} {K : PySem.W.Frag} {mg : Str → Option Value} {base : Heap}

theorem alls (l : List T) : l.map (fun _ => T.bl true) = (l.map fun _ => true).map T.bl := by rw [List.map_map]; rfl
theorem keys_own (s : List Int) : ((ownD s).map (·.1)).map keyV = intsT s := by
  unfold ownD intsT
  rw [List.map_map, List.map_map]
  rfl
def R_Every (K : PySem.W.Frag) (args : List T) (fs : List (Str × T)) : Prop := ∃ d s l, args = [daysT K d, spreadT K s, .lst (strsT1 l)] ∧ d.Ok ∧ Spots s ∧ (∀ m ∈ s, m < 1440) ∧ Lot l ∧ fs = everyF K d s l
def F_Every_init (K : PySem.W.Frag) : TSpec := FI (He.ga K "Every") (R_Every K)
theorem kp_Every_init (c : Fx K mg) : Kp P w K mg base ("Every", some "__init__") 4 4 (F_Every_init K) := by
  have k_Card_init := kp_Card_init (P := P) (w := w) (base := base) c
  have k_notes_of := kp_notes_of (P := P) (w := w) (base := base) c
  have k_want := kp_want (P := P) (w := w) (base := base) c
  have m_moments := mk_spm (P := P) (w := w) (base := base) c
  refine kp_def (d := d_Every_init) c M_Every_init S_Every_init rfl (fun FD => binds_all FD (by exact List.cons_ne_nil _ _) fun _ _ _ _ _ _ _ us its hl h2 => match us, hl, its, h2 with | [_, _, _, _], _, [_], _ => ⟨_, rfl, rfl⟩) fun cdv A outer s H E hr => ⟨_, (
    (qss_cons (qs_expr (qe_fn (k_want) (hr.mono (by omega)) c.g_want (qa_cons (qe_and (qe_callB (ct_isik c) c.b_isinstance (qa_cons (qv 1) (qa_cons (qe_gref c.g_Days) qa_nil))) (qe_one (qe_callB (ct_isik c) c.b_isinstance (qa_cons (qv 2) (qa_cons (qe_gref c.g_Spread) qa_nil))))) (qa_cons qe_str qa_nil))))
      (qss_cons (qs_expr (qe_cbase c (k_Card_init) (hr.mono (by omega)) (qa_cons (qv 0) (qa_cons (qe_lst qa_nil) qa_nil))))
      (qss_cons (qs_fldx (qv 0) (qv 1))
      (qss_cons (qs_fldx (qv 0) (qv 2))
      (qss_cons (qs_fldx (qv 0) (qe_fn (k_notes_of) (hr.mono (by omega)) c.g_notes_of (qa_cons (qv 3) qa_nil)))
      (qss_cons (qs_fldx (qv 0) (qe_callTy (ct_dictP rfl) c.b_dict (qa_cons (qe_lc1 4 rfl S_Every_init.nd (qi_lst (qe_meth0x (fun C e => (m_moments C e).ok (hr.mono (by omega))) (qv 2))) (blkOk_by (by rfl)) (fun s H C cl fp => qts_nil) (fun s H C cl fp => (qe_tup (qa_cons (qv 4) (qa_cons qe_bl qa_nil))))) qa_nil)))
      (qss_one (qs_expr (qe_fn (k_want) (hr.mono (by omega)) c.g_want (qa_cons (qe_callB (ct_all rfl) c.b_all (qa_cons (qe_lc1 5 rfl S_Every_init.nd (qi_lst (qe_callTy (ct_listDx rfl) c.b_list (qa_cons (qe_fldk c (qv 0)) qa_nil))) (blkOk_by (by rfl)) (fun s H C cl fp => qts_nil) (fun s H C cl fp => (qe_cmp ot_lt (qv 5) (qe_gint c.i_DAY)))) qa_nil)) (qa_cons qe_str qa_nil)))))))))))), ?_⟩
  rintro ts M Q hl ⟨a, args, fs, rfl, hM, ⟨d, s, l, rfl, dok, ok, hm, lot, rfl⟩, q⟩
  have l1 := ok.few
  refine ⟨_, _, rfl, onecls c.y_Days, c.t_Days_Days, yes rfl ⟨_, _, rfl, onecls c.y_Spread, c.t_Spread_Spread, rfl, cl_of ⟨_, _, rfl, rfl, ?_⟩⟩⟩
  refine ⟨Nat.le_of_ble_eq_true rfl, rfl, cl_of ⟨a, _, [], rfl, hM, .every, by decide, by decide, ?_⟩⟩
  refine ⟨a, _, _, rfl, mset_same, c.c_Every, c.n_Every_days, few rfl, ?_⟩
  refine ⟨a, _, _, rfl, mset_same, c.c_Every, c.n_Every_spread, few rfl, ?_⟩
  refine ⟨rfl, cl_of ⟨l, rfl, lot.row, lot.wd, by have := lot.few; omega, a, _, _, rfl, mset_same, c.c_Every, c.n_Every_notes, few rfl, ?_⟩⟩
  refine ⟨_, _, rfl, rfl, rfl, rfl, cl_of ⟨s, rfl, ?_⟩⟩
  refine lc_map (ts := intsT s) (fun t => .tup [t, .bl true]) kT (by rw [List.length_map]; omega) (fun t ht => ?_) ?_
  · obtain ⟨m, hm, rfl⟩ := List.mem_map.mp ht
    exact ⟨_, rfl, fun Q' q' => ⟨Nat.le_of_ble_eq_true rfl, q'⟩⟩
  refine ⟨ownD s, by unfold intsT ownD; rw [List.map_map, List.map_map]; rfl, ?_⟩
  rw [own_merge ok.row]
  refine ⟨a, _, _, rfl, mset_same, c.c_Every, c.n_Every_own, few rfl, ?_⟩
  simp only [mset_set]
  refine ⟨_, _, _, mset_same, c.c_Every, c.n_Every_own, rfl, _, _, _, rfl, rfl, ?_⟩
  dsimp only
  rw [keys_own]
  refine lc_map (ts := intsT s) (fun _ => .bl true) kT (by rw [List.length_map]; omega) (fun t ht => ?_) ?_
  · obtain ⟨m, hm', rfl⟩ := List.mem_map.mp ht
    refine ⟨_, rfl, fun Q' q' => ?_⟩
    show Q' (.bl (decide (m < 1440))) _
    rw [decide_eq_true (hm m hm')]
    exact q'
  refine ⟨(intsT s).map fun _ => true, alls _, rfl, cl_of ⟨_, _, rfl, all_true _, ?_⟩⟩
  exact ⟨_, Msub.refl _, q⟩
def R_Join (K : PySem.W.Frag) (args : List T) (fs : List (Str × T)) : Prop := ∃ x y : LC, args = [.lst [pcT K x, pcT K y]] ∧ (LC.join x y).wt ≤ 60 ∧ fs = baseF [pcT K x, pcT K y] (1 + (x.wt + y.wt))
def F_Join_init (K : PySem.W.Frag) : TSpec := FI (He.ga K "Join") (R_Join K)
theorem kp_Join_init (c : Fx K mg) : Kp P w K mg base ("Join", some "__init__") 4 2 (F_Join_init K) := by
  have k_Card_init := kp_Card_init (P := P) (w := w) (base := base) c
  have k_want := kp_want (P := P) (w := w) (base := base) c
  refine kp_def (d := d_Join_init) c M_Join_init S_Join_init rfl (fun FD => FD.bindsN fun _ _ _ _ _ _ us hl => match us, hl with | [_, _], _ => rfl) fun cdv A outer s H E hr => ⟨_, (
    (qss_cons (qs_expr (qe_fn (k_want) (hr.mono (by omega)) c.g_want (qa_cons (qe_and (qe_callB (ct_isik c) c.b_isinstance (qa_cons (qv 1) (qa_cons (qe_tup (qa_cons (qe_bty c.b_list rfl) (qa_cons (qe_bty c.b_tuple rfl) qa_nil))) qa_nil))) (qe_one (qe_cmp ot_gt (qe_callB ct_len c.b_len (qa_cons (qv 1) qa_nil)) qe_int))) (qa_cons qe_str qa_nil))))
      (qss_one (qs_expr (qe_cbase c (k_Card_init) (hr.mono (by omega)) (qa_cons (qv 0) (qa_cons (qv 1) qa_nil))))))), ?_⟩
  rintro ts M Q hl ⟨a, args, fs, rfl, hM, ⟨x, y, rfl, h60, rfl⟩, q⟩
  refine ⟨by decide, _, _, rfl, nocls, ka_l, yes rfl ⟨rfl, cl_of ⟨_, _, rfl, rfl, ?_⟩⟩⟩
  exact ⟨rfl, cl_of ⟨a, _, [x, y], rfl, hM, .join, Nat.le_of_ble_eq_true rfl, h60, _, Msub.refl _, q⟩⟩
def R_Less (K : PySem.W.Frag) (args : List T) (fs : List (Str × T)) : Prop := ∃ x y : LC, args = [pcT K x, pcT K y] ∧ (LC.less x y).wt ≤ 60 ∧ fs = baseF [pcT K x, pcT K y] (1 + (x.wt + y.wt))
def F_Less_init (K : PySem.W.Frag) : TSpec := FI (He.ga K "Less") (R_Less K)
theorem kp_Less_init (c : Fx K mg) : Kp P w K mg base ("Less", some "__init__") 4 3 (F_Less_init K) := by
  have k_Card_init := kp_Card_init (P := P) (w := w) (base := base) c
  refine kp_def (d := d_Less_init) c M_Less_init S_Less_init rfl (fun FD => FD.bindsN fun _ _ _ _ _ _ us hl => match us, hl with | [_, _, _], _ => rfl) fun cdv A outer s H E hr => ⟨_, (
    (qss_one (qs_expr (qe_cbase c (k_Card_init) (hr.mono (by omega)) (qa_cons (qv 0) (qa_cons (qe_lst (qa_cons (qv 1) (qa_cons (qv 2) qa_nil))) qa_nil)))))), ?_⟩
  rintro ts M Q hl ⟨a, args, fs, rfl, hM, ⟨x, y, rfl, h60, rfl⟩, q⟩
  exact ⟨Nat.le_of_ble_eq_true rfl, rfl, cl_of ⟨a, _, [x, y], rfl, hM, .less, Nat.le_of_ble_eq_true rfl, h60, _, Msub.refl _, q⟩⟩
def swapF (K : PySem.W.Frag) (x : LC) (d : LD) (y : LC) : List (Str × T) := baseF [pcT K x, pcT K y] (1 + (x.wt + y.wt)) ++ [fd "days" (daysT K d)]
def R_Swap (K : PySem.W.Frag) (args : List T) (fs : List (Str × T)) : Prop := ∃ (x : LC) (d : LD) (y : LC), args = [pcT K x, daysT K d, pcT K y] ∧ (LC.swap x d y).wt ≤ 60 ∧ fs = swapF K x d y
def F_Swap_init (K : PySem.W.Frag) : TSpec := FI (He.ga K "Swap") (R_Swap K)
theorem kp_Swap_init (c : Fx K mg) : Kp P w K mg base ("Swap", some "__init__") 4 4 (F_Swap_init K) := by
  have k_Card_init := kp_Card_init (P := P) (w := w) (base := base) c
  have k_want := kp_want (P := P) (w := w) (base := base) c
  refine kp_def (d := d_Swap_init) c M_Swap_init S_Swap_init rfl (fun FD => FD.bindsN fun _ _ _ _ _ _ us hl => match us, hl with | [_, _, _, _], _ => rfl) fun cdv A outer s H E hr => ⟨_, (
    (qss_cons (qs_expr (qe_fn (k_want) (hr.mono (by omega)) c.g_want (qa_cons (qe_callB (ct_isik c) c.b_isinstance (qa_cons (qv 2) (qa_cons (qe_gref c.g_Days) qa_nil))) (qa_cons qe_str qa_nil))))
      (qss_cons (qs_expr (qe_cbase c (k_Card_init) (hr.mono (by omega)) (qa_cons (qv 0) (qa_cons (qe_lst (qa_cons (qv 1) (qa_cons (qv 3) qa_nil))) qa_nil))))
      (qss_one (qs_fldx (qv 0) (qv 2)))))), ?_⟩
  rintro ts M Q hl ⟨a, args, fs, rfl, hM, ⟨x, d, y, rfl, h60, rfl⟩, q⟩
  refine ⟨_, _, rfl, onecls c.y_Days, c.t_Days_Days, rfl, cl_of ⟨_, _, rfl, rfl, ?_⟩⟩
  refine ⟨Nat.le_of_ble_eq_true rfl, rfl, cl_of ⟨a, _, [x, y], rfl, hM, .swap, Nat.le_of_ble_eq_true rfl, h60, ?_⟩⟩
  refine ⟨a, _, _, rfl, mset_same, c.c_Swap, c.n_Swap_days, few rfl, ?_⟩
  simp only [mset_set]
  exact ⟨_, Msub.refl _, q⟩
def laterF (K : PySem.W.Frag) (x : LC) (m : Int) : List (Str × T) := baseF [pcT K x] (1 + x.wt) ++ [fd "minutes" (.int m)]
def R_Later (K : PySem.W.Frag) (args : List T) (fs : List (Str × T)) : Prop := ∃ (x : LC) (m : Int), args = [pcT K x, .int m] ∧ 0 ≤ m ∧ m ≤ 10080 ∧ (LC.later x m).wt ≤ 60 ∧ fs = laterF K x m
def F_Later_init (K : PySem.W.Frag) : TSpec := FI (He.ga K "Later") (R_Later K)
theorem kp_Later_init (c : Fx K mg) : Kp P w K mg base ("Later", some "__init__") 4 3 (F_Later_init K) := by
  have k_Card_init := kp_Card_init (P := P) (w := w) (base := base) c
  have k_is_moment := kp_is_moment (P := P) (w := w) (base := base) c
  have k_want := kp_want (P := P) (w := w) (base := base) c
  refine kp_def (d := d_Later_init) c M_Later_init S_Later_init rfl (fun FD => binds_all FD (by exact List.cons_ne_nil _ _) fun _ _ _ _ _ _ _ us its hl h2 => match us, hl, its, h2 with | [_, _, _], _, [_], _ => ⟨_, rfl, rfl⟩) fun cdv A outer s H E hr => ⟨_, (
    (qss_cons (qs_expr (qe_fn (k_want) (hr.mono (by omega)) c.g_want (qa_cons (qe_and (qe_fn (k_is_moment) (hr.mono (by omega)) c.g_is_moment (qa_cons (qv 2) qa_nil)) (qe_one (qe_cmp ot_le (qv 2) (qe_gint c.i_LATEST)))) (qa_cons qe_str qa_nil))))
      (qss_cons (qs_expr (qe_cbase c (k_Card_init) (hr.mono (by omega)) (qa_cons (qv 0) (qa_cons (qe_lst (qa_cons (qv 1) qa_nil)) qa_nil))))
      (qss_one (qs_fldx (qv 0) (qv 2)))))), ?_⟩
  rintro ts M Q hl ⟨a, args, fs, rfl, hM, ⟨x, m, rfl, h0, h1, h60, rfl⟩, q⟩
  refine ⟨rfl, cl_of ⟨m, rfl, yesd h0 ⟨rfl, cl_of ⟨_, _, rfl, decide_eq_true h1, ?_⟩⟩⟩⟩
  refine ⟨Nat.le_of_ble_eq_true rfl, rfl, cl_of ⟨a, _, [x], rfl, hM, .later, Nat.le_of_ble_eq_true rfl, h60, ?_⟩⟩
  refine ⟨a, _, _, rfl, mset_same, c.c_Later, c.n_Later_minutes, few rfl, ?_⟩
  simp only [mset_set]
  exact ⟨_, Msub.refl _, q⟩
def notedF (K : PySem.W.Frag) (x : LC) (w : Str) : List (Str × T) := baseF [pcT K x] (1 + x.wt) ++ [fd "note" (.str w)]
def R_Noted (K : PySem.W.Frag) (args : List T) (fs : List (Str × T)) : Prop := ∃ (x : LC) (w : Str), args = [pcT K x, .str w] ∧ isW w ∧ (LC.noted x w).wt ≤ 60 ∧ fs = notedF K x w
def F_Noted_init (K : PySem.W.Frag) : TSpec := FI (He.ga K "Noted") (R_Noted K)
theorem kp_Noted_init (c : Fx K mg) : Kp P w K mg base ("Noted", some "__init__") 4 3 (F_Noted_init K) := by
  have k_Card_init := kp_Card_init (P := P) (w := w) (base := base) c
  have k_is_name := kp_is_name (P := P) (w := w) (base := base) c
  have k_want := kp_want (P := P) (w := w) (base := base) c
  refine kp_def (d := d_Noted_init) c M_Noted_init S_Noted_init rfl (fun FD => FD.bindsN fun _ _ _ _ _ _ us hl => match us, hl with | [_, _, _], _ => rfl) fun cdv A outer s H E hr => ⟨_, (
    (qss_cons (qs_expr (qe_fn (k_want) (hr.mono (by omega)) c.g_want (qa_cons (qe_fn (k_is_name) (hr.mono (by omega)) c.g_is_name (qa_cons (qv 2) qa_nil)) (qa_cons qe_str qa_nil))))
      (qss_cons (qs_expr (qe_cbase c (k_Card_init) (hr.mono (by omega)) (qa_cons (qv 0) (qa_cons (qe_lst (qa_cons (qv 1) qa_nil)) qa_nil))))
      (qss_one (qs_fldx (qv 0) (qv 2)))))), ?_⟩
  rintro ts M Q hl ⟨a, args, fs, rfl, hM, ⟨x, m, rfl, hw, h60, rfl⟩, q⟩
  refine ⟨rfl, cl_of ⟨m, rfl, hw, rfl, cl_of ⟨_, _, rfl, rfl, ?_⟩⟩⟩
  refine ⟨Nat.le_of_ble_eq_true rfl, rfl, cl_of ⟨a, _, [x], rfl, hM, .noted, Nat.le_of_ble_eq_true rfl, h60, ?_⟩⟩
  refine ⟨a, _, _, rfl, mset_same, c.c_Noted, c.n_Noted_note, few rfl, ?_⟩
  simp only [mset_set]
  exact ⟨_, Msub.refl _, q⟩
def asF (n : Str) : List (Str × T) := baseF [] 1 ++ [fd "name" (.str n)]
def R_As (args : List T) (fs : List (Str × T)) : Prop := ∃ n : Str, args = [.str n] ∧ isW n ∧ fs = asF n
def F_As_init (K : PySem.W.Frag) : TSpec := FI (He.ga K "As") R_As
theorem kp_As_init (c : Fx K mg) : Kp P w K mg base ("As", some "__init__") 4 2 (F_As_init K) := by
  have k_Card_init := kp_Card_init (P := P) (w := w) (base := base) c
  have k_is_name := kp_is_name (P := P) (w := w) (base := base) c
  have k_want := kp_want (P := P) (w := w) (base := base) c
  refine kp_def (d := d_As_init) c M_As_init S_As_init rfl (fun FD => FD.bindsN fun _ _ _ _ _ _ us hl => match us, hl with | [_, _], _ => rfl) fun cdv A outer s H E hr => ⟨_, (
    (qss_cons (qs_expr (qe_fn (k_want) (hr.mono (by omega)) c.g_want (qa_cons (qe_fn (k_is_name) (hr.mono (by omega)) c.g_is_name (qa_cons (qv 1) qa_nil)) (qa_cons qe_str qa_nil))))
      (qss_cons (qs_expr (qe_cbase c (k_Card_init) (hr.mono (by omega)) (qa_cons (qv 0) (qa_cons (qe_lst qa_nil) qa_nil))))
      (qss_one (qs_fldx (qv 0) (qv 1)))))), ?_⟩
  rintro ts M Q hl ⟨a, args, fs, rfl, hM, ⟨n, rfl, hw, rfl⟩, q⟩
  refine ⟨rfl, cl_of ⟨n, rfl, hw, rfl, cl_of ⟨_, _, rfl, rfl, ?_⟩⟩⟩
  refine ⟨Nat.le_of_ble_eq_true rfl, rfl, cl_of ⟨a, _, [], rfl, hM, .as, by decide, by decide, ?_⟩⟩
  refine ⟨a, _, _, rfl, mset_same, c.c_As, c.n_As_name, few rfl, ?_⟩
  simp only [mset_set]
  exact ⟨_, Msub.refl _, q⟩
end
end Tr

set_option Elab.async false
set_option linter.all false
set_option maxRecDepth 100000
set_option maxHeartbeats 4000000
namespace Tr
open PySem PySem.Spec L2

/-! ### what a card without references notes -/
namespace LC
def free : LC → Prop
  | once _ _ => True
  | every _ _ _ => True
  | as _ => False
  | later c _ => c.free
  | noted c _ => c.free
  | less a b => a.free ∧ b.free
  | swap a _ b => a.free ∧ b.free
  | join a b => a.free ∧ b.free
def ht : LC → Nat
  | once _ _ => 0
  | every _ _ _ => 0
  | as _ => 0
  | later c _ => c.ht + 1
  | noted c _ => c.ht + 1
  | less a b => max a.ht b.ht + 1
  | swap a _ b => max a.ht b.ht + 1
  | join a b => max a.ht b.ht + 1
end LC
/-- found, and one more -/
def joinO : Option (List Str) → Option (List Str) → Option (List Str)
  | o, none => o
  | o, some ys => some (joinN o ys)
def notesC : LC → Int → Option (List Str)
  | .once s l, x => if x ∈ s then some l else none
  | .every d s l, x => if x % 1440 ∈ s ∧ hasD d (x / 1440) = true then some l else none
  | .as _, _ => none
  | .later c m, x => if m ≤ x then notesC c (x - m) else none
  | .noted c w, x => (notesC c x).map fun ws => uni (ws ++ [w])
  | .less a b, x => if (notesC b x).isNone = true then notesC a x else none
  | .swap a d b, x => if hasD d (x / 1440) = true then notesC b x else notesC a x
  | .join a b, x => joinO (joinO none (notesC a x)) (notesC b x)
theorem insU_len (x : Str) : ∀ l : List Str, (insU x l).length ≤ l.length + 1
  | [] => Nat.le_refl _
  | y :: r => by
    unfold insU
    have ih := insU_len x r
    split
    · simp
    · split
      · simp only [List.length_cons]; omega
      · simp only [List.length_cons]; omega
theorem uni_len : ∀ l : List Str, (uni l).length ≤ l.length
  | [] => Nat.le_refl _
  | x :: r => by
    have a := insU_len x (uni r)
    have b := uni_len r
    show (insU x (uni r)).length ≤ r.length + 1
    omega
structure Nts (n : Nat) (ws : List Str) : Prop where
  row : ws.Pairwise ltS
  wd : ∀ y ∈ ws, isW y
  few : ws.length ≤ n
theorem Nts.uni {n : Nat} {ws : List Str} (h : ∀ y ∈ ws, isW y) (l : ws.length ≤ n) : Nts n (uni ws) := ⟨uni_row _, fun y hy => h y ((uni_mem y ws).1 hy), Nat.le_trans (uni_len ws) l⟩
theorem Nts.mono {n m : Nat} {ws : List Str} (h : Nts n ws) (l : n ≤ m) : Nts m ws := ⟨h.row, h.wd, Nat.le_trans h.few l⟩
theorem notes_ok : ∀ (c : LC) (x : Int) (ws : List Str), okC c → notesC c x = some ws → Nts (2 * c.wt) ws
  | .once s l, x, ws, ok, e => by
    unfold notesC at e
    split at e
    · cases e
      exact ⟨ok.2.2.row, ok.2.2.wd, ok.2.2.few⟩
    · cases e
  | .every d s l, x, ws, ok, e => by
    unfold notesC at e
    split at e
    · cases e
      exact ⟨ok.2.2.2.2.2.row, ok.2.2.2.2.2.wd, ok.2.2.2.2.2.few⟩
    · cases e
  | .as _, x, ws, ok, e => by cases e
  | .later c m, x, ws, ok, e => by
    unfold notesC at e
    split at e
    · exact (notes_ok c _ ws ok.1 e).mono (by rw [show (LC.later c m).wt = 1 + c.wt from rfl]; omega)
    · cases e
  | .noted c w, x, ws, ok, e => by
    unfold notesC at e
    cases q : notesC c x with
    | none => rw [q] at e; cases e
    | some us =>
      rw [q] at e
      have e : uni (us ++ [w]) = ws := Option.some.inj e
      subst e
      have ih := notes_ok c x us ok.1 q
      refine Nts.uni (fun y hy => ?_) ?_
      · rcases List.mem_append.mp hy with h | h
        · exact ih.wd y h
        · rw [List.mem_singleton.mp h]; exact ok.2
      · have := ih.few
        rw [List.length_append, List.length_singleton, show (LC.noted c w).wt = 1 + c.wt from rfl]
        omega
  | .less a b, x, ws, ok, e => by
    unfold notesC at e
    split at e
    · exact (notes_ok a x ws ok.1 e).mono (by rw [show (LC.less a b).wt = 1 + (a.wt + b.wt) from rfl]; omega)
    · cases e
  | .swap a d b, x, ws, ok, e => by
    unfold notesC at e
    split at e
    · exact (notes_ok b x ws ok.2.2 e).mono (by rw [show (LC.swap a d b).wt = 1 + (a.wt + b.wt) from rfl]; omega)
    · exact (notes_ok a x ws ok.1 e).mono (by rw [show (LC.swap a d b).wt = 1 + (a.wt + b.wt) from rfl]; omega)
  | .join a b, x, ws, ok, e => by
    unfold notesC at e
    have wj : (LC.join a b).wt = 1 + (a.wt + b.wt) := rfl
    cases qa : notesC a x with
    | none =>
      cases qb : notesC b x with
      | none => rw [qa, qb] at e; cases e
      | some ys =>
        rw [qa, qb] at e
        have e : ys = ws := Option.some.inj e
        subst e
        exact (notes_ok b x ys ok.2 qb).mono (by omega)
    | some xs =>
      have ia := notes_ok a x xs ok.1 qa
      cases qb : notesC b x with
      | none =>
        rw [qa, qb] at e
        have e : xs = ws := Option.some.inj e
        subst e
        exact ia.mono (by omega)
      | some ys =>
        rw [qa, qb] at e
        have e : uni (xs ++ ys) = ws := Option.some.inj e
        subst e
        have ib := notes_ok b x ys ok.2 qb
        refine Nts.uni (fun y hy => ?_) ?_
        · rcases List.mem_append.mp hy with h | h
          · exact ia.wd y h
          · exact ib.wd y h
        · have := ia.few
          have := ib.few
          rw [List.length_append]
          omega
/-- the kinds of cards that note -/
inductive Kd where
  | once | every | later | noted | less | swap | join
def LC.kd : LC → Option Kd
  | .once _ _ => some .once
  | .every _ _ _ => some .every
  | .as _ => none
  | .later _ _ => some .later
  | .noted _ _ => some .noted
  | .less _ _ => some .less
  | .swap _ _ _ => some .swap
  | .join _ _ => some .join
def Kd.cls (K : PySem.W.Frag) : Kd → Addr
  | .once => He.ga K "Once"
  | .every => He.ga K "Every"
  | .later => He.ga K "Later"
  | .noted => He.ga K "Noted"
  | .less => He.ga K "Less"
  | .swap => He.ga K "Swap"
  | .join => He.ga K "Join"
structure NAok (n : Nat) (c : LC) (x : Int) : Prop where
  ok : okC c
  free : c.free
  ht : c.ht ≤ n
  wt : c.wt ≤ 30
  nn : 0 ≤ x
def F_NA (K : PySem.W.Frag) (n : Nat) (i : Kd) : TSpec := fun ts M Q => ∃ c x, ts = [pcT K c, .int x] ∧ c.kd = some i ∧ NAok n c x ∧ Q (noteT (notesC c x)) M
abbrev NAk (P : Program) (w : World) (K : PySem.W.Frag) (mg : Str → Option Value) (base : Heap) (n : Nat) : Prop := ∀ i C, C = Kd.cls K i → MethK P w K mg base C "notes_at" (8 + n) 2 (F_NA K n i)
theorem pc_kd {K : PySem.W.Frag} {c : LC} (h : c.free) : ∃ i fs, pcT K c = .ins (Kd.cls K i) fs ∧ c.kd = some i ∧ fs.lookup ("notes_at" : Str) = none := by
  cases c with
  | once s l => exact ⟨.once, _, rfl, rfl, rfl⟩
  | every d s l => exact ⟨.every, _, rfl, rfl, rfl⟩
  | as n => cases h
  | later c m => exact ⟨.later, _, rfl, rfl, rfl⟩
  | noted c w => exact ⟨.noted, _, rfl, rfl, rfl⟩
  | less a b => exact ⟨.less, _, rfl, rfl, rfl⟩
  | swap a d b => exact ⟨.swap, _, rfl, rfl, rfl⟩
  | join a b => exact ⟨.join, _, rfl, rfl, rfl⟩
theorem kget_own (x : Int) : ∀ s : List Int, kget (.inl x) (ownD s) = if x ∈ s then some (.bl true) else none
  | [] => rfl
  | m :: s => by
    show (if (Sum.inl m : Key) = .inl x then some (T.bl true) else kget (.inl x) (ownD s)) = _
    rw [kget_own x s]
    by_cases h : m = x
    · subst h
      simp
    · have h2 : ¬ x = m := fun z => h z.symm
      have h3 : ¬ (Sum.inl m : Key) = .inl x := fun z => h (Sum.inl.inj z)
      rw [if_neg h3]
      simp [h2]
/-- a call of notes_at in a reading -/
theorem na_call {K : PySem.W.Frag} {n : Nat} {c : LC} {x : Int} (h : NAok n c x) {wo : WE} {u : WA} {s : TSt} {M : Mh} {Q : TQ} (ho : ∀ Q' : TQ, Q' (pcT K c) M → wo s M Q') (hu : ∀ Q' : List T → Mh → Prop, Q' [.int x] M → u s M Q') (q : Q (noteT (notesC c x)) M) :
    wMethc (fun i C => C = Kd.cls K i) "notes_at" 2 (F_NA K n) wo u s M Q := by
  obtain ⟨i, fs, e, k, l⟩ := pc_kd (K := K) h.free
  refine ho _ ⟨i, _, fs, by rw [e]; rfl, rfl, l, hu _ ⟨rfl, cl_of ⟨c, x, rfl, k, h, q⟩⟩⟩

section
variable {P : Program} {w : World} {K : PySem.W.Frag} {mg : Str → Option Value} {base : Heap}


theorem kp_Once_notes_at (c : Fx K mg) : Kp P w K mg base ("Once", some "notes_at") 1 2 (F_NA K 0 .once) := by
  refine kp_def (d := d_Once_notes_at) c M_Once_notes_at S_Once_notes_at rfl (fun FD => FD.bindsN fun _ _ _ _ _ _ us hl => match us, hl with | [_, _], _ => rfl) fun cdv A outer s H E hr => ⟨_, (
    (qss_one (qs_ret (qe_ifExp (qt_dinx (Tr.Room.u1 hr) (qv 1) (qe_fldk c (qv 0))) (qe_fldk c (qv 0)) qe_non)))), ?_⟩
  rintro ts M Q hl ⟨d, x, rfl, k, h, q⟩
  cases d with
  | once s l =>
    refine ⟨_, _, _, rfl, c.c_Once, c.n_Once_own, rfl, _, _, _, rfl, rfl, ?_⟩
    rw [kget_own]
    by_cases hx : x ∈ s
    · rw [show notesC (.once s l) x = some l from if_pos hx] at q
      rw [if_pos hx]
      exact yes rfl ⟨_, _, _, rfl, c.c_Once, c.n_Once_notes, rfl, M, Msub.refl M, q⟩
    · rw [show notesC (.once s l) x = none from if_neg hx] at q
      rw [if_neg hx]
      exact no rfl ⟨M, Msub.refl M, q⟩
  | _ => cases k

theorem kp_Every_notes_at (c : Fx K mg) : Kp P w K mg base ("Every", some "notes_at") 6 2 (F_NA K 0 .every) := by
  have m_has := mk_has (P := P) (w := w) (base := base) c
  refine kp_def (d := d_Every_notes_at) c M_Every_notes_at S_Every_notes_at rfl (fun FD => FD.bindsN fun _ _ _ _ _ _ us hl => match us, hl with | [_, _], _ => rfl) fun cdv A outer s H E hr => ⟨_, (
    (qss_cons (qs_asg (qe_callB ct_divmod c.b_divmod (qa_cons (qv 1) (qa_cons (qe_gint c.i_DAY) qa_nil))) (qg_tup rfl (qgs_cons (qg_name 2 S_Every_notes_at.nd) (qgs_cons (qg_name 3 S_Every_notes_at.nd) qgs_nil))))
      (qss_one (qs_ret (qe_ifExp (QW.qt (qw_and (qt_dinx (Tr.Room.u1 hr) (qv 3) (qe_fldk c (qv 0))) (qw_and1 (qt_val (qe_methx (fun C e => (m_has C e).ok (hr.mono (by omega))) (qe_fldk c (qv 0)) (qa_cons (qv 2) qa_nil)))))) (qe_fldk c (qv 0)) qe_non))))), ?_⟩
  rintro ts M Q hl ⟨d, x, rfl, k, h, q⟩
  cases d with
  | every d s l =>
    have h0 := h.nn
    refine ⟨⟨by decide, by decide⟩, rfl, rfl, _, _, _, rfl, c.c_Every, c.n_Every_own, rfl, _, _, _, rfl, rfl, ?_⟩
    rw [kget_own]
    by_cases hx : x % 1440 ∈ s
    · rw [if_pos hx]
      refine yes rfl ⟨_, _, _, rfl, c.c_Every, c.n_Every_days, rfl, _, _, rfl, rfl, rfl, rfl, cl_of ⟨d, x / 1440, rfl, h.ok.1, by omega, ?_⟩⟩
      by_cases hd : hasD d (x / 1440) = true
      · rw [show notesC (.every d s l) x = some l from if_pos ⟨hx, hd⟩] at q
        exact yes hd ⟨_, _, _, rfl, c.c_Every, c.n_Every_notes, rfl, M, Msub.refl M, q⟩
      · rw [show notesC (.every d s l) x = none from if_neg fun z => hd z.2] at q
        exact no (Bool.not_eq_true _ ▸ hd) ⟨M, Msub.refl M, q⟩
    · rw [show notesC (.every d s l) x = none from if_neg fun z => hx z.1] at q
      rw [if_neg hx]
      exact no rfl (no rfl ⟨M, Msub.refl M, q⟩)
  | _ => cases k

theorem kp_Later_notes_at (c : Fx K mg) {n : Nat} (m_notes_at : NAk P w K mg base n) : Kp P w K mg base ("Later", some "notes_at") (8 + n + 1) 2 (F_NA K (n + 1) .later) := by
  refine kp_def (d := d_Later_notes_at) c M_Later_notes_at S_Later_notes_at rfl (fun FD => FD.bindsN fun _ _ _ _ _ _ us hl => match us, hl with | [_, _], _ => rfl) fun cdv A outer s H E hr => ⟨_, (
    (qss_one (qs_ret (qe_ifExp (qt_cmp ot_ge (qv 1) (qe_fldk c (qv 0))) (qe_methc (fun i C e => (m_notes_at i C e).ok (hr.mono (by omega))) (qe_ix it_seqx (qe_fldk c (qv 0)) qe_int) (qa_cons (qe_op ot_sub (qv 1) (qe_fldk c (qv 0))) qa_nil)) qe_non)))), ?_⟩
  rintro ts M Q hl ⟨d, x, rfl, k, h, q⟩
  cases d with
  | later d m =>
    refine ⟨_, _, _, rfl, c.c_Later, c.n_Later_minutes, rfl, ?_⟩
    by_cases hm : m ≤ x
    · rw [show notesC (.later d m) x = notesC d (x - m) from if_pos hm] at q
      have hh := h.ht
      have hw := h.wt
      refine yesd hm (na_call (c := d) (x := x - m) ⟨h.ok.1, h.free, Nat.le_of_succ_le_succ hh, by rw [show (LC.later d m).wt = 1 + d.wt from rfl] at hw; omega, by omega⟩ (fun Q' q' => ⟨_, _, _, rfl, c.c_Later, c.n_Later_held, rfl, _, _, _, .inl rfl, rfl, rfl, q'⟩)
        (fun Q' q' => ⟨_, _, _, rfl, c.c_Later, c.n_Later_minutes, rfl, q'⟩) ⟨M, Msub.refl M, q⟩)
    · rw [show notesC (.later d m) x = none from if_neg hm] at q
      exact nod hm ⟨M, Msub.refl M, q⟩
  | _ => cases k

theorem kp_Noted_notes_at (c : Fx K mg) {n : Nat} (m_notes_at : NAk P w K mg base n) : Kp P w K mg base ("Noted", some "notes_at") (8 + n + 1) 2 (F_NA K (n + 1) .noted) := by
  have k_notes_together := kp_notes_together (P := P) (w := w) (base := base) c
  refine kp_def (d := d_Noted_notes_at) c M_Noted_notes_at S_Noted_notes_at rfl (fun FD => FD.bindsN fun _ _ _ _ _ _ us hl => match us, hl with | [_, _], _ => rfl) fun cdv A outer s H E hr => ⟨_, (
    (qss_cons (qs_set 2 S_Noted_notes_at.nd (qe_methc (fun i C e => (m_notes_at i C e).ok (hr.mono (by omega))) (qe_ix it_seqx (qe_fldk c (qv 0)) qe_int) (qa_cons (qv 1) qa_nil)))
      (qss_one (qs_ret (qe_ifExp (qt_cmp ot_isN (qv 2) qe_non) qe_non (qe_fn (k_notes_together) (hr.mono (by omega)) c.g_notes_together (qa_cons (qv 2) (qa_cons (qe_tup (qa_cons (qe_fldk c (qv 0)) qa_nil)) qa_nil)))))))), ?_⟩
  rintro ts M Q hl ⟨d, x, rfl, k, h, q⟩
  cases d with
  | noted d v =>
    have hh := h.ht
    have hw := h.wt
    rw [show (LC.noted d v).wt = 1 + d.wt from rfl] at hw
    refine na_call (c := d) (x := x) ⟨h.ok.1, h.free, Nat.le_of_succ_le_succ hh, by omega, h.nn⟩ (fun Q' q' => ⟨_, _, _, rfl, c.c_Noted, c.n_Noted_held, rfl, _, _, _, .inl rfl, rfl, rfl, q'⟩) (fun Q' q' => q') ?_
    have e : notesC (.noted d v) x = (notesC d x).map fun ws => uni (ws ++ [v]) := rfl
    rw [e] at q
    cases en : notesC d x with
    | none =>
      rw [en] at q
      exact yes rfl ⟨M, Msub.refl M, q⟩
    | some ws =>
      rw [en] at q
      have hn := (notes_ok d x ws h.ok.1 en).few
      exact no rfl ⟨_, _, _, rfl, c.c_Noted, c.n_Noted_note, rfl, Nat.le_of_ble_eq_true rfl, rfl, cl_of ⟨some ws, [v], rfl, by show ws.length + 1 < 64; omega, M, Msub.refl M, q⟩⟩
  | _ => cases k

theorem kp_Less_notes_at (c : Fx K mg) {n : Nat} (m_notes_at : NAk P w K mg base n) : Kp P w K mg base ("Less", some "notes_at") (8 + n + 1) 2 (F_NA K (n + 1) .less) := by
  refine kp_def (d := d_Less_notes_at) c M_Less_notes_at S_Less_notes_at rfl (fun FD => FD.bindsN fun _ _ _ _ _ _ us hl => match us, hl with | [_, _], _ => rfl) fun cdv A outer s H E hr => ⟨_, (
    (qss_cons (qs_asg (qe_fldk c (qv 0)) (qg_lst rfl (qgs_cons (qg_name 2 S_Less_notes_at.nd) (qgs_cons (qg_name 3 S_Less_notes_at.nd) qgs_nil))))
      (qss_one (qs_ret (qe_ifExp (qt_cmp ot_isN (qe_methc (fun i C e => (m_notes_at i C e).ok (hr.mono (by omega))) (qv 3) (qa_cons (qv 1) qa_nil)) qe_non) (qe_methc (fun i C e => (m_notes_at i C e).ok (hr.mono (by omega))) (qv 2) (qa_cons (qv 1) qa_nil)) qe_non))))), ?_⟩
  rintro ts M Q hl ⟨d, x, rfl, k, h, q⟩
  cases d with
  | less a b =>
    have hh := h.ht
    have hw := h.wt
    rw [show (LC.less a b).wt = 1 + (a.wt + b.wt) from rfl] at hw
    rw [show (LC.less a b).ht = max a.ht b.ht + 1 from rfl] at hh
    refine ⟨_, _, _, rfl, c.c_Less, c.n_Less_held, rfl, rfl, rfl, ?_⟩
    refine na_call (wo := wVar 3) (u := wCons (wVar 1) wNil) (s := [some (pcT K (.less a b)), some (.int x), some (pcT K a), some (pcT K b)]) (n := n) (c := b) (x := x) ⟨h.ok.2, h.free.2, by omega, by omega, h.nn⟩ (fun Q' q' => q') (fun Q' q' => q') ?_
    have e : notesC (.less a b) x = if (notesC b x).isNone = true then notesC a x else none := rfl
    rw [e] at q
    cases en : notesC b x with
    | none =>
      rw [en] at q
      refine yes rfl ?_
      exact na_call (n := n) (c := a) (x := x) ⟨h.ok.1, h.free.1, by omega, by omega, h.nn⟩ (fun Q' q' => q') (fun Q' q' => q') ⟨M, Msub.refl M, q⟩
    | some ws =>
      rw [en] at q
      exact no rfl ⟨M, Msub.refl M, q⟩
  | _ => cases k

theorem kp_Swap_notes_at (c : Fx K mg) {n : Nat} (m_notes_at : NAk P w K mg base n) : Kp P w K mg base ("Swap", some "notes_at") (8 + n + 1) 2 (F_NA K (n + 1) .swap) := by
  have m_has := mk_has (P := P) (w := w) (base := base) c
  refine kp_def (d := d_Swap_notes_at) c M_Swap_notes_at S_Swap_notes_at rfl (fun FD => FD.bindsN fun _ _ _ _ _ _ us hl => match us, hl with | [_, _], _ => rfl) fun cdv A outer s H E hr => ⟨_, (
    (qss_one (qs_ret (qe_methc (fun i C e => (m_notes_at i C e).ok (hr.mono (by omega))) (qe_ix it_seqx (qe_fldk c (qv 0)) (qe_callTy ct_intB c.b_int (qa_cons (qe_methx (fun C e => (m_has C e).ok (hr.mono (by omega))) (qe_fldk c (qv 0)) (qa_cons (qe_op ot_fdiv (qv 1) (qe_gint c.i_DAY)) qa_nil)) qa_nil))) (qa_cons (qv 1) qa_nil))))), ?_⟩
  rintro ts M Q hl ⟨z, x, rfl, k, h, q⟩
  cases z with
  | swap a d b =>
    have hh := h.ht
    have hw := h.wt
    have h0 := h.nn
    rw [show (LC.swap a d b).wt = 1 + (a.wt + b.wt) from rfl] at hw
    rw [show (LC.swap a d b).ht = max a.ht b.ht + 1 from rfl] at hh
    have e : notesC (.swap a d b) x = if hasD d (x / 1440) = true then notesC b x else notesC a x := rfl
    rw [e] at q
    have pick : ∀ Q' : TQ, Q' (pcT K (if hasD d (x / 1440) = true then b else a)) M → wOp trIxx (wFldx K (wVar 0) "held") (wCall (c1 trIntB) (wCons (wMethx (fun C => C = He.ga K "Days") "has" 2 (F_Days_has K) (wFldx K (wVar 0) "days") (wCons (wOp (trI CDiv fun i j => i / j) (wVar 1) (wC (.int 1440))) wNil)) wNil)) [some (pcT K (.swap a d b)), some (.int x)] M Q' := fun Q' q' => by
      refine ⟨_, _, _, rfl, c.c_Swap, c.n_Swap_held, rfl, _, _, _, rfl, c.c_Swap, c.n_Swap_days, rfl, _, _, rfl, rfl, rfl, ⟨by decide, by decide⟩, rfl, cl_of ⟨d, x / 1440, rfl, h.ok.2.1, by omega, ?_⟩⟩
      cases hb : hasD d (x / 1440) with
      | true =>
        rw [hb] at q'
        exact ⟨_, _, _, .inl rfl, rfl, rfl, q'⟩
      | false =>
        rw [hb] at q'
        exact ⟨_, _, _, .inl rfl, rfl, rfl, q'⟩
    cases hb : hasD d (x / 1440) with
    | true =>
      rw [hb] at q pick
      exact na_call (c := b) (x := x) ⟨h.ok.2.2, h.free.2, by omega, by omega, h.nn⟩ pick (fun Q' q' => q') ⟨M, Msub.refl M, q⟩
    | false =>
      rw [hb] at q pick
      exact na_call (c := a) (x := x) ⟨h.ok.1, h.free.1, by omega, by omega, h.nn⟩ pick (fun Q' q' => q') ⟨M, Msub.refl M, q⟩
  | _ => cases k
def accJ (a b : LC) (x : Int) : Nat → Option (List Str)
  | 0 => none
  | 1 => joinO none (notesC a x)
  | _ => joinO (joinO none (notesC a x)) (notesC b x)
theorem kp_Join_notes_at (c : Fx K mg) {n : Nat} (m_notes_at : NAk P w K mg base n) : Kp P w K mg base ("Join", some "notes_at") (8 + n + 1) 2 (F_NA K (n + 1) .join) := by
  have k_notes_together := kp_notes_together (P := P) (w := w) (base := base) c
  refine kp_def (d := d_Join_notes_at) c M_Join_notes_at S_Join_notes_at rfl (fun FD => FD.bindsN fun _ _ _ _ _ _ us hl => match us, hl with | [_, _], _ => rfl) fun cdv A outer s H E hr => ⟨_, (
    (qss_cons (qs_set 2 S_Join_notes_at.nd qe_non)
      (qss_cons (qs_for PassesOwn.never rfl (qi_lst (qe_fldk c (qv 0))) (qg_name 3 S_Join_notes_at.nd)
      (qss_cons (qs_set 4 S_Join_notes_at.nd (qe_methc (fun i C e => (m_notes_at i C e).ok (hr.mono (by omega))) (qv 3) (qa_cons (qv 1) qa_nil)))
      (qss_one (qs_if (qt_cmp ot_notN (qv 4) qe_non)
      (qss_one (qs_set 2 S_Join_notes_at.nd (qe_fn (k_notes_together) (hr.mono (by omega)) c.g_notes_together (qa_cons (qv 2) (qa_cons (qv 4) qa_nil)))))
      qss_nil))))
      (qss_one (qs_ret (qv 2)))))), ?_⟩
  rintro ts M Q hl ⟨z, x, rfl, k, h, q⟩
  cases z with
  | join a b =>
    have hh := h.ht
    have hw := h.wt
    rw [show (LC.join a b).wt = 1 + (a.wt + b.wt) from rfl] at hw
    rw [show (LC.join a b).ht = max a.ht b.ht + 1 from rfl] at hh
    refine ⟨_, _, _, rfl, c.c_Join, c.n_Join_held, rfl, ?_⟩
    refine ⟨fun i s' M' => M' = M ∧ ∃ o p, s' = [some (pcT K (.join a b)), some (.int x), some (noteT (accJ a b x i)), o, p], ⟨rfl, none, none, rfl⟩, fun _ _ _ _ => kT, ?_, ?_⟩
    · rintro i s' M' t et ⟨rfl, o, p, rfl⟩
      match i, et with
      | 0, et =>
        have et : some (pcT K a) = some t := et
        cases et
        refine na_call (c := a) (x := x) ⟨h.ok.1, h.free.1, by omega, by omega, h.nn⟩ (fun Q' q' => q') (fun Q' q' => q') ?_
        cases en : notesC a x with
        | none =>
          have e1 : accJ a b x (0 + 1) = none := by
            show joinO none (notesC a x) = none
            rw [en]; rfl
          exact no rfl ⟨rfl, some (pcT K a), some .non, by rw [e1]; rfl⟩
        | some ys =>
          have e1 : accJ a b x (0 + 1) = some ys := by
            show joinO none (notesC a x) = _
            rw [en]; rfl
          have hn := (notes_ok a x ys h.ok.1 en).few
          exact yes rfl ⟨rfl, cl_of ⟨none, ys, rfl, by show 0 + ys.length < 64; omega, rfl, some (pcT K a), some (lotT ys), by rw [e1]; rfl⟩⟩
      | 1, et =>
        have et : some (pcT K b) = some t := et
        cases et
        refine na_call (c := b) (x := x) ⟨h.ok.2, h.free.2, by omega, by omega, h.nn⟩ (fun Q' q' => q') (fun Q' q' => q') ?_
        have hacc : optLen (accJ a b x 1) ≤ 2 * a.wt := by
          show optLen (joinO none (notesC a x)) ≤ _
          cases en : notesC a x with
          | none => exact Nat.zero_le _
          | some ys => exact (notes_ok a x ys h.ok.1 en).few
        cases en : notesC b x with
        | none =>
          have e1 : accJ a b x (1 + 1) = accJ a b x 1 := by
            show joinO (accJ a b x 1) (notesC b x) = _
            rw [en]; rfl
          exact no rfl ⟨rfl, some (pcT K b), some .non, by rw [e1]; rfl⟩
        | some ys =>
          have e1 : accJ a b x (1 + 1) = some (joinN (accJ a b x 1) ys) := by
            show joinO (accJ a b x 1) (notesC b x) = _
            rw [en]; rfl
          have hn := (notes_ok b x ys h.ok.2 en).few
          exact yes rfl ⟨rfl, cl_of ⟨accJ a b x 1, ys, rfl, by omega, rfl, some (pcT K b), some (lotT ys), by rw [e1]; rfl⟩⟩
      | i + 2, et => simp at et
    · rintro s' M' ⟨rfl, o, p, rfl⟩
      exact ⟨M', Msub.refl _, q⟩
  | _ => cases k
end
end Tr

set_option Elab.async false
set_option linter.all false
set_option maxRecDepth 100000
set_option maxHeartbeats 4000000
namespace Tr
open PySem PySem.Spec L2
section
variable {P : Program} {w : World} {K : PySem.W.Frag} {mg : Str → Option Value} {base : Heap}
/-- a promise that asks the impossible -/
theorem kp_vac {d : He.DefD} {ps : List Str} {k n : Nat} {F : TSpec} (c : Fx K mg) (hd : d ∈ fnL) (hb : ∀ {fd : FuncData}, FunD K d.name d.qual d.params d.body d.scope (d.dvs K) (d.kws K) (He.fAd K d.at_) fd → Binds K fd ps []) (no : ∀ ts M Q, ¬ F ts M Q) : Kp P w K mg base d.at_ k n F := by
  obtain ⟨fd, FD⟩ := c.fn hd
  have z : ∀ vs H Q E, ¬ spT n F vs H Q E := fun vs H Q E h => by
    obtain ⟨_, G, M, ts, Qt, _, _, f, _⟩ := h
    exact no ts M Qt f
  exact ⟨fd, ps, ⟨fun vs H Q E h => (z _ _ _ _ h).elim, fun A outer s H args us vs Q E _ _ _ _ h => (z _ _ _ _ h).elim⟩, hb FD, FD.kp⟩
theorem na_all (c : Fx K mg) : ∀ n, NAk P w K mg base n := by
  have once : Kp P w K mg base ("Once", some "notes_at") 1 2 (F_NA K 0 .once) := kp_Once_notes_at c
  have every := kp_Every_notes_at (P := P) (w := w) (base := base) c
  intro n
  induction n with
  | zero =>
    rintro i C rfl
    cases i with
    | once => exact (methK c.c_Once c.m_Once_notes_at once).mono (by omega)
    | every => exact (methK c.c_Every c.m_Every_notes_at every).mono (by omega)
    | later => exact methK c.c_Later c.m_Later_notes_at (kp_vac (d := d_Later_notes_at) (ps := ["self", "moment"]) c M_Later_notes_at (fun FD => FD.bindsN fun _ _ _ _ _ _ us hl => match us, hl with | [_, _], _ => rfl) fun ts M Q ⟨d, x, _, k, h, _⟩ => by cases d with | later d m => exact absurd h.ht (Nat.not_succ_le_zero _) | _ => cases k)
    | noted => exact methK c.c_Noted c.m_Noted_notes_at (kp_vac (d := d_Noted_notes_at) (ps := ["self", "moment"]) c M_Noted_notes_at (fun FD => FD.bindsN fun _ _ _ _ _ _ us hl => match us, hl with | [_, _], _ => rfl) fun ts M Q ⟨d, x, _, k, h, _⟩ => by cases d with | noted d m => exact absurd h.ht (Nat.not_succ_le_zero _) | _ => cases k)
    | less => exact methK c.c_Less c.m_Less_notes_at (kp_vac (d := d_Less_notes_at) (ps := ["self", "moment"]) c M_Less_notes_at (fun FD => FD.bindsN fun _ _ _ _ _ _ us hl => match us, hl with | [_, _], _ => rfl) fun ts M Q ⟨d, x, _, k, h, _⟩ => by cases d with | less d m => exact absurd h.ht (Nat.not_succ_le_zero _) | _ => cases k)
    | swap => exact methK c.c_Swap c.m_Swap_notes_at (kp_vac (d := d_Swap_notes_at) (ps := ["self", "moment"]) c M_Swap_notes_at (fun FD => FD.bindsN fun _ _ _ _ _ _ us hl => match us, hl with | [_, _], _ => rfl) fun ts M Q ⟨d, x, _, k, h, _⟩ => by cases d with | swap d m e => exact absurd h.ht (Nat.not_succ_le_zero _) | _ => cases k)
    | join => exact methK c.c_Join c.m_Join_notes_at (kp_vac (d := d_Join_notes_at) (ps := ["self", "moment"]) c M_Join_notes_at (fun FD => FD.bindsN fun _ _ _ _ _ _ us hl => match us, hl with | [_, _], _ => rfl) fun ts M Q ⟨d, x, _, k, h, _⟩ => by cases d with | join d m => exact absurd h.ht (Nat.not_succ_le_zero _) | _ => cases k)
  | succ n ih =>
    rintro i C rfl
    have up : ∀ {C : Addr} {k : Nat} {i : Kd}, (i = .once ∨ i = .every) → MethK P w K mg base C "notes_at" k 2 (F_NA K 0 i) → k ≤ 8 + (n + 1) → MethK P w K mg base C "notes_at" (8 + (n + 1)) 2 (F_NA K (n + 1) i) := fun {C k i} hi h l => by
      obtain ⟨f, fd, ps, a, b, d, e⟩ := h.ex
      refine ⟨f, fd, ps, a, b, (d.imp fun vs H Q E z => ?_).mono l, e⟩
      obtain ⟨hl, G, M, ts, Qt, S, R, ⟨z, x, e1, k1, h1, q⟩, q2⟩ := z
      refine ⟨hl, G, M, ts, Qt, S, R, ⟨z, x, e1, k1, ⟨h1.ok, h1.free, ?_, h1.wt, h1.nn⟩, q⟩, q2⟩
      cases z with
      | once _ _ => exact Nat.le_refl _
      | every _ _ _ => exact Nat.le_refl _
      | as _ => cases k1
      | _ => rcases hi with e | e <;> (rw [e] at k1; cases k1)
    cases i with
    | once => exact up (.inl rfl) (methK c.c_Once c.m_Once_notes_at once) (by omega)
    | every => exact up (.inr rfl) (methK c.c_Every c.m_Every_notes_at every) (by omega)
    | later => exact methK c.c_Later c.m_Later_notes_at (kp_Later_notes_at c ih)
    | noted => exact methK c.c_Noted c.m_Noted_notes_at (kp_Noted_notes_at c ih)
    | less => exact methK c.c_Less c.m_Less_notes_at (kp_Less_notes_at c ih)
    | swap => exact methK c.c_Swap c.m_Swap_notes_at (kp_Swap_notes_at c ih)
    | join => exact methK c.c_Join c.m_Join_notes_at (kp_Join_notes_at c ih)
end
end Tr

set_option Elab.async false
set_option linter.all false
set_option maxRecDepth 100000
set_option maxHeartbeats 4000000
namespace Tr
open PySem PySem.Spec L2

/-! ### cards over lines -/
namespace LC
def names : LC → List Str
  | once _ _ => []
  | every _ _ _ => []
  | as n => [n]
  | later c _ => c.names
  | noted c _ => c.names
  | less a b => a.names ++ b.names
  | swap a _ b => a.names ++ b.names
  | join a b => a.names ++ b.names
end LC
abbrev Ln : Type := List (Str × LC)
def lget (k : Str) : Ln → Option LC
  | [] => none
  | (j, c) :: r => if j = k then some c else lget k r
def two (f : LC → LC → LC) : Option LC → Option LC → Option LC
  | some x, some y => some (f x y)
  | _, _ => none
/-- a card with its references told, n deep at most -/
def exp (L : Ln) : Nat → LC → Option LC
  | 0, _ => none
  | _ + 1, .once s l => some (.once s l)
  | _ + 1, .every d s l => some (.every d s l)
  | n + 1, .as k => (lget k L).bind (exp L n)
  | n + 1, .later c m => (exp L n c).map fun x => .later x m
  | n + 1, .noted c w => (exp L n c).map fun x => .noted x w
  | n + 1, .less a b => two .less (exp L n a) (exp L n b)
  | n + 1, .swap a d b => two (fun x y => .swap x d y) (exp L n a) (exp L n b)
  | n + 1, .join a b => two .join (exp L n a) (exp L n b)
theorem two_some {f : LC → LC → LC} {o p : Option LC} {z : LC} (h : two f o p = some z) : ∃ x y, o = some x ∧ p = some y ∧ z = f x y := by
  cases o with
  | none => cases h
  | some x =>
    cases p with
    | none => cases h
    | some y =>
      cases h
      exact ⟨x, y, rfl, rfl, rfl⟩
theorem exp_up {L : Ln} : ∀ {n : Nat} {c z : LC}, exp L n c = some z → exp L (n + 1) c = some z
  | 0, _, _, h => by cases h
  | n + 1, .once s l, z, h => h
  | n + 1, .every d s l, z, h => h
  | n + 1, .as k, z, h => by
    have h : (lget k L).bind (exp L n) = some z := h
    show (lget k L).bind (exp L (n + 1)) = some z
    cases e : lget k L with
    | none => rw [e] at h; cases h
    | some c => rw [e] at h; exact exp_up (n := n) h
  | n + 1, .later c m, z, h => by
    have h : (exp L n c).map (fun x => LC.later x m) = some z := h
    show (exp L (n + 1) c).map (fun x => LC.later x m) = some z
    obtain ⟨x, e, rfl⟩ := Option.map_eq_some_iff.mp h
    rw [exp_up e]; rfl
  | n + 1, .noted c m, z, h => by
    have h : (exp L n c).map (fun x => LC.noted x m) = some z := h
    show (exp L (n + 1) c).map (fun x => LC.noted x m) = some z
    obtain ⟨x, e, rfl⟩ := Option.map_eq_some_iff.mp h
    rw [exp_up e]; rfl
  | n + 1, .less a b, z, h => by
    obtain ⟨x, y, e1, e2, rfl⟩ := two_some (show two LC.less (exp L n a) (exp L n b) = some z from h)
    show two LC.less (exp L (n + 1) a) (exp L (n + 1) b) = _
    rw [exp_up e1, exp_up e2]; rfl
  | n + 1, .swap a d b, z, h => by
    obtain ⟨x, y, e1, e2, rfl⟩ := two_some (show two (fun x y => LC.swap x d y) (exp L n a) (exp L n b) = some z from h)
    show two (fun x y => LC.swap x d y) (exp L (n + 1) a) (exp L (n + 1) b) = _
    rw [exp_up e1, exp_up e2]; rfl
  | n + 1, .join a b, z, h => by
    obtain ⟨x, y, e1, e2, rfl⟩ := two_some (show two LC.join (exp L n a) (exp L n b) = some z from h)
    show two LC.join (exp L (n + 1) a) (exp L (n + 1) b) = _
    rw [exp_up e1, exp_up e2]; rfl
theorem exp_ups {L : Ln} {n : Nat} {c z : LC} (h : exp L n c = some z) : ∀ k, exp L (n + k) c = some z
  | 0 => h
  | k + 1 => exp_up (exp_ups h k)
theorem exp_le {L : Ln} {n m : Nat} {c z : LC} (h : exp L n c = some z) (l : n ≤ m) : exp L m c = some z := by
  have e := exp_ups h (m - n)
  rwa [Nat.add_sub_cancel' l] at e
theorem exp_det {L : Ln} {n m : Nat} {c x y : LC} (h : exp L n c = some x) (k : exp L m c = some y) : x = y := by
  have a := exp_le h (Nat.le_max_left n m)
  have b := exp_le k (Nat.le_max_right n m)
  rw [a] at b
  exact Option.some.inj b
/-- no references left, not higher -/
theorem exp_free {L : Ln} : ∀ {n : Nat} {c z : LC}, exp L n c = some z → z.free ∧ z.ht < n
  | 0, _, _, h => by cases h
  | n + 1, .once s l, z, h => by cases h; exact ⟨trivial, Nat.succ_pos _⟩
  | n + 1, .every d s l, z, h => by cases h; exact ⟨trivial, Nat.succ_pos _⟩
  | n + 1, .as k, z, h => by
    have h : (lget k L).bind (exp L n) = some z := h
    cases e : lget k L with
    | none => rw [e] at h; cases h
    | some c =>
      rw [e] at h
      have ih := exp_free (n := n) h
      exact ⟨ih.1, Nat.lt_succ_of_lt ih.2⟩
  | n + 1, .later c m, z, h => by
    obtain ⟨x, e, rfl⟩ := Option.map_eq_some_iff.mp (show (exp L n c).map (fun x => LC.later x m) = some z from h)
    have ih := exp_free e
    exact ⟨ih.1, Nat.succ_lt_succ ih.2⟩
  | n + 1, .noted c m, z, h => by
    obtain ⟨x, e, rfl⟩ := Option.map_eq_some_iff.mp (show (exp L n c).map (fun x => LC.noted x m) = some z from h)
    have ih := exp_free e
    exact ⟨ih.1, Nat.succ_lt_succ ih.2⟩
  | n + 1, .less a b, z, h => by
    obtain ⟨x, y, e1, e2, rfl⟩ := two_some (show two LC.less (exp L n a) (exp L n b) = some z from h)
    have i1 := exp_free e1
    have i2 := exp_free e2
    exact ⟨⟨i1.1, i2.1⟩, by show max x.ht y.ht + 1 < n + 1; omega⟩
  | n + 1, .swap a d b, z, h => by
    obtain ⟨x, y, e1, e2, rfl⟩ := two_some (show two (fun x y => LC.swap x d y) (exp L n a) (exp L n b) = some z from h)
    have i1 := exp_free e1
    have i2 := exp_free e2
    exact ⟨⟨i1.1, i2.1⟩, by show max x.ht y.ht + 1 < n + 1; omega⟩
  | n + 1, .join a b, z, h => by
    obtain ⟨x, y, e1, e2, rfl⟩ := two_some (show two LC.join (exp L n a) (exp L n b) = some z from h)
    have i1 := exp_free e1
    have i2 := exp_free e2
    exact ⟨⟨i1.1, i2.1⟩, by show max x.ht y.ht + 1 < n + 1; omega⟩
/-- the lines are well made -/
def okL (L : Ln) : Prop := ∀ k c, lget k L = some c → okC c
theorem exp_ok {L : Ln} (hL : okL L) : ∀ {n : Nat} {c z : LC}, exp L n c = some z → okC c → okC z
  | 0, _, _, h, _ => by cases h
  | n + 1, .once s l, z, h, ok => by cases h; exact ok
  | n + 1, .every d s l, z, h, ok => by cases h; exact ok
  | n + 1, .as k, z, h, ok => by
    have h : (lget k L).bind (exp L n) = some z := h
    cases e : lget k L with
    | none => rw [e] at h; cases h
    | some c =>
      rw [e] at h
      exact exp_ok hL (n := n) h (hL k c e)
  | n + 1, .later c m, z, h, ok => by
    obtain ⟨x, e, rfl⟩ := Option.map_eq_some_iff.mp (show (exp L n c).map (fun x => LC.later x m) = some z from h)
    exact ⟨exp_ok hL e ok.1, ok.2⟩
  | n + 1, .noted c m, z, h, ok => by
    obtain ⟨x, e, rfl⟩ := Option.map_eq_some_iff.mp (show (exp L n c).map (fun x => LC.noted x m) = some z from h)
    exact ⟨exp_ok hL e ok.1, ok.2⟩
  | n + 1, .less a b, z, h, ok => by
    obtain ⟨x, y, e1, e2, rfl⟩ := two_some (show two LC.less (exp L n a) (exp L n b) = some z from h)
    exact ⟨exp_ok hL e1 ok.1, exp_ok hL e2 ok.2⟩
  | n + 1, .swap a d b, z, h, ok => by
    obtain ⟨x, y, e1, e2, rfl⟩ := two_some (show two (fun x y => LC.swap x d y) (exp L n a) (exp L n b) = some z from h)
    exact ⟨exp_ok hL e1 ok.1, ok.2.1, exp_ok hL e2 ok.2.2⟩
  | n + 1, .join a b, z, h, ok => by
    obtain ⟨x, y, e1, e2, rfl⟩ := two_some (show two LC.join (exp L n a) (exp L n b) = some z from h)
    exact ⟨exp_ok hL e1 ok.1, exp_ok hL e2 ok.2⟩
/-- the lines as the program's dict -/
def linesT (K : PySem.W.Frag) (L : Ln) : List (Key × T) := L.map fun p => (Sum.inr p.1, pcT K p.2)
theorem kget_lines {K : PySem.W.Frag} (k : Str) : ∀ L : Ln, kget (.inr k) (linesT K L) = (lget k L).map (pcT K)
  | [] => rfl
  | (j, c) :: r => by
    show (if (Sum.inr j : Key) = .inr k then some (pcT K c) else kget (.inr k) (linesT K r)) = (if j = k then some c else lget k r).map (pcT K)
    rw [kget_lines k r]
    by_cases h : j = k
    · rw [if_pos h, if_pos (by rw [h])]; rfl
    · rw [if_neg h, if_neg fun z => h (Sum.inr.inj z)]
/-! ### is it a reference? -/
theorem kd_as {K : PySem.W.Frag} {mg : Str → Option Value} (c : Fx K mg) (i : Kd) : InsTy K (Kd.cls K i) ∧ PySem.W.kitOne K (.ref (Kd.cls K i)) (.ref (He.ga K "As")) = some false := by
  cases i with
  | once => exact ⟨c.y_Once, c.t_Once_As⟩
  | every => exact ⟨c.y_Every, c.t_Every_As⟩
  | later => exact ⟨c.y_Later, c.t_Later_As⟩
  | noted => exact ⟨c.y_Noted, c.t_Noted_As⟩
  | less => exact ⟨c.y_Less, c.t_Less_As⟩
  | swap => exact ⟨c.y_Swap, c.t_Swap_As⟩
  | join => exact ⟨c.y_Join, c.t_Join_As⟩
/-- isinstance(card, As) -/
theorem isi_as {K : PySem.W.Frag} {mg : Str → Option Value} (c : Fx K mg) (d : LC) (M : Mh) : ∃ t, tyT M (pcT K d) = some t ∧ (∀ C, t = .ref C → InsTy K C) ∧ PySem.W.kitOne K t (.ref (He.ga K "As")) = some d.kd.isNone := by
  cases d with
  | as n => exact ⟨_, rfl, onecls c.y_As, c.t_As_As⟩
  | once s l => exact ⟨_, rfl, onecls (kd_as c .once).1, (kd_as c .once).2⟩
  | every d s l => exact ⟨_, rfl, onecls (kd_as c .every).1, (kd_as c .every).2⟩
  | later d m => exact ⟨_, rfl, onecls (kd_as c .later).1, (kd_as c .later).2⟩
  | noted d m => exact ⟨_, rfl, onecls (kd_as c .noted).1, (kd_as c .noted).2⟩
  | less a b => exact ⟨_, rfl, onecls (kd_as c .less).1, (kd_as c .less).2⟩
  | swap a d b => exact ⟨_, rfl, onecls (kd_as c .swap).1, (kd_as c .swap).2⟩
  | join a b => exact ⟨_, rfl, onecls (kd_as c .join).1, (kd_as c .join).2⟩
theorem free_kd {d : LC} (h : d.free) : d.kd.isNone = false := by
  cases d <;> first | rfl | cases h
theorem kids_ht {d : LC} {n : Nat} (h : d.ht < n + 1) : ∀ x ∈ d.kids, x.ht < n := by
  intro x hx
  cases d with
  | once _ _ => cases hx
  | every _ _ _ => cases hx
  | as _ => cases hx
  | later c m => rw [List.mem_singleton.mp hx]; exact Nat.lt_of_succ_lt_succ h
  | noted c m => rw [List.mem_singleton.mp hx]; exact Nat.lt_of_succ_lt_succ h
  | less a b =>
    have h : max a.ht b.ht + 1 < n + 1 := h
    rcases List.mem_cons.mp hx with e | e
    · rw [e]; omega
    · rw [List.mem_singleton.mp e]; omega
  | swap a _ b =>
    have h : max a.ht b.ht + 1 < n + 1 := h
    rcases List.mem_cons.mp hx with e | e
    · rw [e]; omega
    · rw [List.mem_singleton.mp e]; omega
  | join a b =>
    have h : max a.ht b.ht + 1 < n + 1 := h
    rcases List.mem_cons.mp hx with e | e
    · rw [e]; omega
    · rw [List.mem_singleton.mp e]; omega
theorem kids_free {d : LC} (h : d.free) : ∀ x ∈ d.kids, x.free := by
  intro x hx
  cases d with
  | once _ _ => cases hx
  | every _ _ _ => cases hx
  | as _ => cases hx
  | later c m => rw [List.mem_singleton.mp hx]; exact h
  | noted c m => rw [List.mem_singleton.mp hx]; exact h
  | less a b => rcases List.mem_cons.mp hx with e | e; (rw [e]; exact h.1); (rw [List.mem_singleton.mp e]; exact h.2)
  | swap a _ b => rcases List.mem_cons.mp hx with e | e; (rw [e]; exact h.1); (rw [List.mem_singleton.mp e]; exact h.2)
  | join a b => rcases List.mem_cons.mp hx with e | e; (rw [e]; exact h.1); (rw [List.mem_singleton.mp e]; exact h.2)
/-- card.inner() in a reading -/
theorem inner_call {K : PySem.W.Frag} (d : LC) {wo : WE} {s : TSt} {M : Mh} {Q : TQ} (ho : ∀ Q' : TQ, Q' (pcT K d) M → wo s M Q') (q : Q (.lst (pcsT K d.kids)) M) : wMethx (IsC K) "inner" 1 (F_Card_inner K) wo wNil s M Q := by
  obtain ⟨C, fs, e, i⟩ := pc_i (K := K) d
  exact ho _ ⟨_, fs, by rw [e]; rfl, i.is_, i.inner, rfl, cl_of ⟨d, rfl, q⟩⟩

section
variable {P : Program} {w : World} {K : PySem.W.Frag} {mg : Str → Option Value} {base : Heap}

def F_first_as (K : PySem.W.Frag) (n : Nat) : TSpec := fun ts M Q => ∃ d, ts = [pcT K d] ∧ d.free ∧ d.ht < n ∧ Q .non M
theorem kp_first_as (c : Fx K mg) {n : Nat} (k_first_as : Kp P w K mg base ("first_as", none) (1 + n) 1 (F_first_as K n)) : Kp P w K mg base ("first_as", none) (1 + n + 1) 1 (F_first_as K (n + 1)) := by
  have m_inner := mk_inner (P := P) (w := w) (base := base) c
  refine kp_def (d := d_first_as) c M_first_as S_first_as rfl (fun FD => FD.bindsN fun _ _ _ _ _ _ us hl => match us, hl with | [_], _ => rfl) fun cdv A outer s H E hr => ⟨_, (
    (qss_cons (qs_if (qt_val (qe_callB (ct_isik c) c.b_isinstance (qa_cons (qv 0) (qa_cons (qe_gref c.g_As) qa_nil))))
      (qss_one (qs_ret (qe_fldk c (qv 0))))
      qss_nil)
      (qss_cons (qs_for PassesOwn.never rfl (qi_lst (qe_meth0x (fun C e => (m_inner C e).ok (hr.mono (by omega))) (qv 0))) (qg_name 1 S_first_as.nd)
      (qss_cons (qs_set 2 S_first_as.nd (qe_fn (k_first_as) (hr.mono (by omega)) c.g_first_as (qa_cons (qv 1) qa_nil)))
      (qss_one (qs_if (qt_cmp ot_notN (qv 2) qe_non)
      (qss_one (qs_ret (qv 2)))
      qss_nil))))
      (qss_one (qs_ret qe_non))))), ?_⟩
  rintro ts M Q hl ⟨d, rfl, hf, hh, q⟩
  obtain ⟨t, h1, h2, h3⟩ := isi_as c d M
  refine ⟨t, _, h1, h2, h3, no (free_kd hf) ?_⟩
  refine inner_call (wo := wVar 0) (s := [some (pcT K d), none, none]) d (fun Q' q' => q') ?_
  refine ⟨fun k s' M' => M' = M ∧ ∃ o p, s' = [some (pcT K d), o, p], ⟨rfl, none, none, rfl⟩, fun _ _ _ _ => kT, ?_, ?_⟩
  · rintro k s' M' t et ⟨rfl, o, p, rfl⟩
    obtain ⟨x, hx, rfl⟩ := List.mem_map.mp (List.mem_of_getElem? et)
    exact ⟨rfl, cl_of ⟨x, rfl, kids_free hf x hx, kids_ht hh x hx, no rfl ⟨rfl, some (pcT K x), some .non, rfl⟩⟩⟩
  · rintro s' M' ⟨rfl, o, p, rfl⟩
    exact ⟨M', Msub.refl _, q⟩
end
section
variable {P : Program} {w : World} {K : PySem.W.Frag} {mg : Str → Option Value} {base : Heap}
theorem first_as_all (c : Fx K mg) : ∀ n, Kp P w K mg base ("first_as", none) (1 + n) 1 (F_first_as K n)
  | 0 => kp_vac (d := d_first_as) (ps := ["card"]) c M_first_as (fun FD => FD.bindsN fun _ _ _ _ _ _ us hl => match us, hl with | [_], _ => rfl) fun ts M Q ⟨d, _, _, h, _⟩ => Nat.not_lt_zero _ h
  | n + 1 => kp_first_as c (first_as_all c n)
end
section
variable {P : Program} {w : World} {K : PySem.W.Frag} {mg : Str → Option Value} {base : Heap}

def F_want_card (K : PySem.W.Frag) : TSpec := fun ts M Q => ∃ d, ts = [pcT K d] ∧ Q .non M
theorem kp_want_card (c : Fx K mg) : Kp P w K mg base ("want_card", none) 2 1 (F_want_card K) := by
  have k_want := kp_want (P := P) (w := w) (base := base) c
  refine kp_def (d := d_want_card) c M_want_card S_want_card rfl (fun FD => FD.bindsN fun _ _ _ _ _ _ us hl => match us, hl with | [_], _ => rfl) fun cdv A outer s H E hr => ⟨_, (
    (qss_one (qs_expr (qe_fn (k_want) (hr.mono (by omega)) c.g_want (qa_cons (qe_callB (ct_isik c) c.b_isinstance (qa_cons (qv 0) (qa_cons (qe_gref c.g_Card) qa_nil))) (qa_cons qe_str qa_nil)))))), ?_⟩
  rintro ts M Q hl ⟨d, rfl, q⟩
  obtain ⟨C, fs, e, i⟩ := pc_i (K := K) d
  rw [e]
  exact ⟨_, _, rfl, onecls (i.is_.i c).ty, (i.is_.i c).kit, rfl, cl_of ⟨_, _, rfl, rfl, M, Msub.refl M, q⟩⟩
def F_want_known (K : PySem.W.Frag) : TSpec := fun ts M Q => ∃ d, ts = [pcT K d] ∧ d.free ∧ d.ht < 40 ∧ Q .non M
theorem kp_want_known (c : Fx K mg) : Kp P w K mg base ("want_known", none) 42 1 (F_want_known K) := by
  have k_first_as := first_as_all (P := P) (w := w) (base := base) c 40
  refine kp_def (d := d_want_known) c M_want_known S_want_known rfl (fun FD => FD.bindsN fun _ _ _ _ _ _ us hl => match us, hl with | [_], _ => rfl) fun cdv A outer s H E hr => ⟨_, (
    (qss_cons (qs_set 1 S_want_known.nd (qe_fn (k_first_as) (hr.mono (by omega)) c.g_first_as (qa_cons (qv 0) qa_nil)))
      (qss_one (qs_if (qt_cmp ot_notN (qv 1) qe_non)
      (qss_one qs_never)
      qss_nil)))), ?_⟩
  rintro ts M Q hl ⟨d, rfl, hf, hh, q⟩
  exact ⟨rfl, cl_of ⟨d, rfl, hf, hh, no rfl ⟨M, Msub.refl M, q⟩⟩⟩
def goingT (K : PySem.W.Frag) (x : Int) : Option (List Str) → T
  | none => .non
  | some ws => .ins (He.ga K "Going") (goingF x ws)
def F_going_at (K : PySem.W.Frag) : TSpec := fun ts M Q => ∃ d x, ts = [pcT K d, .int x] ∧ NAok 39 d x ∧ Q (goingT K x (notesC d x)) M
theorem kp_going_at (c : Fx K mg) : Kp P w K mg base ("going_at", none) 50 2 (F_going_at K) := by
  have k_Going_init := kp_Going_init (P := P) (w := w) (base := base) c
  have k_want_card := kp_want_card (P := P) (w := w) (base := base) c
  have k_want_known := kp_want_known (P := P) (w := w) (base := base) c
  have k_want_moment := kp_want_moment (P := P) (w := w) (base := base) c
  have m_notes_at := na_all (P := P) (w := w) (base := base) c 39
  refine kp_def (d := d_going_at) c M_going_at S_going_at rfl (fun FD => FD.bindsN fun _ _ _ _ _ _ us hl => match us, hl with | [_, _], _ => rfl) fun cdv A outer s H E hr => ⟨_, (
    (qss_cons (qs_expr (qe_fn (k_want_card) (hr.mono (by omega)) c.g_want_card (qa_cons (qv 0) qa_nil)))
      (qss_cons (qs_expr (qe_fn (k_want_moment) (hr.mono (by omega)) c.g_want_moment (qa_cons (qv 1) qa_nil)))
      (qss_cons (qs_expr (qe_fn (k_want_known) (hr.mono (by omega)) c.g_want_known (qa_cons (qv 0) qa_nil)))
      (qss_cons (qs_set 2 S_going_at.nd (qe_methc (fun i C e => (m_notes_at i C e).ok (hr.mono (by omega))) (qv 0) (qa_cons (qv 1) qa_nil)))
      (qss_one (qs_ret (qe_ifExp (qt_cmp ot_isN (qv 2) qe_non) qe_non (qe_obj rfl c.k_Going (k_Going_init) (hr.mono (by omega)) c.g_Going (qa_cons (qv 1) (qa_cons (qv 2) qa_nil))))))))))), ?_⟩
  rintro ts M Q hl ⟨d, x, rfl, h, q⟩
  refine ⟨rfl, cl_of ⟨d, rfl, rfl, cl_of ⟨x, rfl, h.nn, rfl, cl_of ⟨d, rfl, h.free, Nat.lt_succ_of_le h.ht, ?_⟩⟩⟩⟩
  refine na_call (n := 39) (wo := wVar 0) (u := wCons (wVar 1) wNil) (s := [some (pcT K d), some (.int x), none]) h (fun Q' q' => q') (fun Q' q' => q') ?_
  cases e : notesC d x with
  | none =>
    rw [e] at q
    exact yes rfl ⟨M, Msub.refl M, q⟩
  | some ws =>
    rw [e] at q
    have i := notes_ok d x ws h.ok e
    have hw := h.wt
    have hf := i.few
    exact no rfl ⟨rfl, _, ⟨x, ws, rfl, h.nn, i.row, i.wd, by omega, rfl⟩, M, Msub.refl M, q⟩
def F_changed_card (K : PySem.W.Frag) : TSpec := fun ts M Q => ∃ d, ts = [pcT K d, .dic []] ∧ ∀ M', Msub M M' → Q (pcT K d) M
theorem kp_changed_card (c : Fx K mg) : Kp P w K mg base ("changed_card", none) 1 2 (F_changed_card K) := by
  refine kp_def (d := d_changed_card) c M_changed_card S_changed_card rfl (fun FD => FD.bindsN fun _ _ _ _ _ _ us hl => match us, hl with | [_, _], _ => rfl) fun cdv A outer s H E hr => ⟨_, (
    (qss_cons (qs_if (qt_cmp (ot_eqDicS hr.units0) (qv 1) qe_dicO)
      (qss_one (qs_ret (qv 0)))
      qss_nil)
      qss_never)), ?_⟩
  rintro ts M Q hl ⟨d, rfl, q⟩
  intro l hM
  exact ⟨mset_same, yes rfl ⟨M, Msub.new hM, q M (Msub.refl M)⟩⟩
end
end Tr

set_option Elab.async false
set_option linter.all false
set_option maxRecDepth 100000
set_option maxHeartbeats 4000000
namespace Tr
open PySem PySem.Spec L2

theorem names_len : ∀ c : LC, c.names.length ≤ c.wt
  | .once _ _ => Nat.zero_le _
  | .every _ _ _ => Nat.zero_le _
  | .as _ => Nat.le_refl _
  | .later c _ => by
    have := names_len c
    show c.names.length ≤ 1 + c.wt
    omega
  | .noted c _ => by
    have := names_len c
    show c.names.length ≤ 1 + c.wt
    omega
  | .less a b => by
    have := names_len a
    have := names_len b
    show (a.names ++ b.names).length ≤ 1 + (a.wt + b.wt)
    rw [List.length_append]
    omega
  | .swap a _ b => by
    have := names_len a
    have := names_len b
    show (a.names ++ b.names).length ≤ 1 + (a.wt + b.wt)
    rw [List.length_append]
    omega
  | .join a b => by
    have := names_len a
    have := names_len b
    show (a.names ++ b.names).length ≤ 1 + (a.wt + b.wt)
    rw [List.length_append]
    omega
theorem kids_wt {d : LC} : ∀ x ∈ d.kids, x.wt ≤ d.wt := by
  intro x hx
  cases d with
  | once _ _ => cases hx
  | every _ _ _ => cases hx
  | as _ => cases hx
  | later c m => rw [List.mem_singleton.mp hx]; show c.wt ≤ 1 + c.wt; omega
  | noted c m => rw [List.mem_singleton.mp hx]; show c.wt ≤ 1 + c.wt; omega
  | less a b =>
    show x.wt ≤ 1 + (a.wt + b.wt)
    rcases List.mem_cons.mp hx with e | e
    · rw [e]; omega
    · rw [List.mem_singleton.mp e]; omega
  | swap a _ b =>
    show x.wt ≤ 1 + (a.wt + b.wt)
    rcases List.mem_cons.mp hx with e | e
    · rw [e]; omega
    · rw [List.mem_singleton.mp e]; omega
  | join a b =>
    show x.wt ≤ 1 + (a.wt + b.wt)
    rcases List.mem_cons.mp hx with e | e
    · rw [e]; omega
    · rw [List.mem_singleton.mp e]; omega
theorem names_kids {d : LC} (h : d.kd.isNone = false) : d.names = d.kids.flatMap LC.names := by
  cases d with
  | as _ => cases h
  | once _ _ => rfl
  | every _ _ _ => rfl
  | later c m => exact (List.append_nil _).symm
  | noted c m => exact (List.append_nil _).symm
  | less a b => show a.names ++ b.names = a.names ++ (b.names ++ []); rw [List.append_nil]
  | swap a _ b => show a.names ++ b.names = a.names ++ (b.names ++ []); rw [List.append_nil]
  | join a b => show a.names ++ b.names = a.names ++ (b.names ++ []); rw [List.append_nil]
theorem flat_take {α β : Type} (f : α → List β) (l : List α) (k : Nat) : ((l.take k).flatMap f).length ≤ (l.flatMap f).length := by
  have e : l.flatMap f = (l.take k).flatMap f ++ (l.drop k).flatMap f := by rw [← List.flatMap_append, List.take_append_drop]
  rw [e, List.length_append]
  omega

section
variable {P : Program} {w : World} {K : PySem.W.Frag} {mg : Str → Option Value} {base : Heap}

def F_names_in (K : PySem.W.Frag) (n : Nat) : TSpec := fun ts M Q => ∃ d, ts = [pcT K d] ∧ d.ht < n ∧ d.wt ≤ 60 ∧ Q (.lst (strsT1 d.names)) M
theorem kp_names_in (c : Fx K mg) {n : Nat} (k_names_in : Kp P w K mg base ("names_in", none) (1 + n) 1 (F_names_in K n)) : Kp P w K mg base ("names_in", none) (1 + n + 1) 1 (F_names_in K (n + 1)) := by
  have m_inner := mk_inner (P := P) (w := w) (base := base) c
  refine kp_def (d := d_names_in) c M_names_in S_names_in rfl (fun FD => FD.bindsN fun _ _ _ _ _ _ us hl => match us, hl with | [_], _ => rfl) fun cdv A outer s H E hr => ⟨_, (
    (qss_cons (qs_if (qt_val (qe_callB (ct_isik c) c.b_isinstance (qa_cons (qv 0) (qa_cons (qe_gref c.g_As) qa_nil))))
      (qss_one (qs_ret (qe_lst (qa_cons (qe_fldk c (qv 0)) qa_nil))))
      qss_nil)
      (qss_cons (qs_set 1 S_names_in.nd (qe_lstO qa_nil))
      (qss_cons (qs_for PassesOwn.never rfl (qi_lst (qe_meth0x (fun C e => (m_inner C e).ok (hr.mono (by omega))) (qv 0))) (qg_name 2 S_names_in.nd)
      (qss_one (qs_expr (qe_extendx (qv 1) (qa_cons (qe_fn (k_names_in) (hr.mono (by omega)) c.g_names_in (qa_cons (qv 2) qa_nil)) qa_nil)))))
      (qss_one (qs_ret (qe_sealx (qv 1)))))))), ?_⟩
  rintro ts M Q hl ⟨d, rfl, hh, hw, q⟩
  obtain ⟨t, h1, h2, h3⟩ := isi_as c d M
  refine ⟨t, _, h1, h2, h3, ?_⟩
  have hn := names_len d
  cases hk : d.kd.isNone with
  | true =>
    cases d with
    | as m => exact yes rfl ⟨_, _, _, rfl, c.c_As, c.n_As_name, rfl, Nat.le_of_ble_eq_true rfl, M, Msub.refl M, q⟩
    | _ => cases hk
  | false =>
    refine no rfl ⟨Nat.le_of_ble_eq_true rfl, fun l hM => ?_⟩
    refine inner_call (wo := wVar 0) (s := [some (pcT K d), some (.adr l), none]) d (fun Q' q' => q') ?_
    refine ⟨fun k s' M' => M' = mset M l (.lst (strsT1 ((d.kids.take k).flatMap LC.names))) ∧ ∃ o, s' = [some (pcT K d), some (.adr l), o], ⟨rfl, none, rfl⟩, fun _ _ _ _ => kT, ?_, ?_⟩
    · rintro k s' M' t et ⟨rfl, o, rfl⟩
      unfold pcsT at et
      rw [List.getElem?_map] at et
      obtain ⟨x, hx, rfl⟩ := Option.map_eq_some_iff.mp et
      have mx := List.mem_of_getElem? hx
      have wx := kids_wt x mx
      have nx := names_len x
      have tk := flat_take LC.names d.kids k
      rw [← names_kids hk] at tk
      refine ⟨⟨l, _, rfl, mset_same, trivial⟩, rfl, cl_of ⟨x, rfl, kids_ht hh x mx, by omega, l, _, rfl, mset_same, _, rfl, ?_, ?_, some (pcT K x), rfl⟩⟩
      · rw [List.length_map, List.length_map]
        omega
      · rw [mset_set, take_next hx, List.flatMap_append, List.flatMap_cons, List.flatMap_nil, List.append_nil]
        show _ = mset M l (.lst (strsT1 (_ ++ _)))
        unfold strsT1
        rw [List.map_append]
    · rintro s' M' ⟨rfl, o, rfl⟩
      refine ⟨l, _, rfl, mset_same, trivial, M, ?_, ?_⟩
      · rw [mdel_set hM]
        exact Msub.refl M
      · show Q (.lst (strsT1 ((d.kids.take (pcsT K d.kids).length).flatMap LC.names))) M
        rw [show (pcsT K d.kids).length = d.kids.length from List.length_map _, List.take_length, ← names_kids hk]
        exact q
end
section
variable {P : Program} {w : World} {K : PySem.W.Frag} {mg : Str → Option Value} {base : Heap}
theorem names_in_all (c : Fx K mg) : ∀ n, Kp P w K mg base ("names_in", none) (1 + n) 1 (F_names_in K n)
  | 0 => kp_vac (d := d_names_in) (ps := ["card"]) c M_names_in (fun FD => FD.bindsN fun _ _ _ _ _ _ us hl => match us, hl with | [_], _ => rfl) fun ts M Q ⟨d, _, h, _⟩ => Nat.not_lt_zero _ h
  | n + 1 => kp_names_in c (names_in_all c n)
end
section
variable {P : Program} {w : World} {K : PySem.W.Frag} {mg : Str → Option Value} {base : Heap}

def rebuild : LC → List LC → LC
  | .join _ _, [x, y] => .join x y
  | .less _ _, [x, y] => .less x y
  | .swap _ d _, [x, y] => .swap x d y
  | .later _ m, [x] => .later x m
  | .noted _ v, [x] => .noted x v
  | c, _ => c
def F_with_inner (K : PySem.W.Frag) : TSpec := fun ts M Q => ∃ d cs, ts = [pcT K d, .lst (pcsT K cs)] ∧ okC d ∧ d.kd.isNone = false ∧ cs.length = d.kids.length ∧ (rebuild d cs).wt ≤ 60 ∧ Q (pcT K (rebuild d cs)) M
theorem kp_with_inner (c : Fx K mg) : Kp P w K mg base ("with_inner", none) 6 2 (F_with_inner K) := by
  have k_Join_init := kp_Join_init (P := P) (w := w) (base := base) c
  have k_Later_init := kp_Later_init (P := P) (w := w) (base := base) c
  have k_Less_init := kp_Less_init (P := P) (w := w) (base := base) c
  have k_Noted_init := kp_Noted_init (P := P) (w := w) (base := base) c
  have k_Swap_init := kp_Swap_init (P := P) (w := w) (base := base) c
  refine kp_def (d := d_with_inner) c M_with_inner S_with_inner rfl (fun FD => FD.bindsN fun _ _ _ _ _ _ us hl => match us, hl with | [_, _], _ => rfl) fun cdv A outer s H E hr => ⟨_, (
    (qss_cons (qs_if (qt_val (qe_callB (ct_isik c) c.b_isinstance (qa_cons (qv 0) (qa_cons (qe_gref c.g_Join) qa_nil))))
      (qss_one (qs_ret (qe_obj rfl c.k_Join (k_Join_init) (hr.mono (by omega)) c.g_Join (qa_cons (qv 1) qa_nil))))
      qss_nil)
      (qss_cons (qs_if (qt_val (qe_callB (ct_isik c) c.b_isinstance (qa_cons (qv 0) (qa_cons (qe_gref c.g_Less) qa_nil))))
      (qss_one (qs_ret (qe_obj rfl c.k_Less (k_Less_init) (hr.mono (by omega)) c.g_Less (qa_cons (qe_ix it_seqx (qv 1) qe_int) (qa_cons (qe_ix it_seqx (qv 1) qe_int) qa_nil)))))
      qss_nil)
      (qss_cons (qs_if (qt_val (qe_callB (ct_isik c) c.b_isinstance (qa_cons (qv 0) (qa_cons (qe_gref c.g_Swap) qa_nil))))
      (qss_one (qs_ret (qe_obj rfl c.k_Swap (k_Swap_init) (hr.mono (by omega)) c.g_Swap (qa_cons (qe_ix it_seqx (qv 1) qe_int) (qa_cons (qe_fldk c (qv 0)) (qa_cons (qe_ix it_seqx (qv 1) qe_int) qa_nil))))))
      qss_nil)
      (qss_cons (qs_if (qt_val (qe_callB (ct_isik c) c.b_isinstance (qa_cons (qv 0) (qa_cons (qe_gref c.g_Later) qa_nil))))
      (qss_one (qs_ret (qe_obj rfl c.k_Later (k_Later_init) (hr.mono (by omega)) c.g_Later (qa_cons (qe_ix it_seqx (qv 1) qe_int) (qa_cons (qe_fldk c (qv 0)) qa_nil)))))
      qss_nil)
      (qss_cons (qs_if (qt_val (qe_callB (ct_isik c) c.b_isinstance (qa_cons (qv 0) (qa_cons (qe_gref c.g_Noted) qa_nil))))
      (qss_one (qs_ret (qe_obj rfl c.k_Noted (k_Noted_init) (hr.mono (by omega)) c.g_Noted (qa_cons (qe_ix it_seqx (qv 1) qe_int) (qa_cons (qe_fldk c (qv 0)) qa_nil)))))
      qss_nil)
      (qss_one (qs_ret (qv 0))))))))), ?_⟩
  rintro ts M Q hl ⟨d, cs, rfl, ok, hk, hlen, hw, q⟩
  cases d with
  | as _ => cases hk
  | once s l => exact ⟨_, _, rfl, onecls c.y_Once, c.t_Once_Join, no rfl ⟨_, _, rfl, onecls c.y_Once, c.t_Once_Less, no rfl ⟨_, _, rfl, onecls c.y_Once, c.t_Once_Swap, no rfl ⟨_, _, rfl, onecls c.y_Once, c.t_Once_Later, no rfl ⟨_, _, rfl, onecls c.y_Once, c.t_Once_Noted, no rfl ⟨M, Msub.refl M, q⟩⟩⟩⟩⟩⟩
  | every d s l => exact ⟨_, _, rfl, onecls c.y_Every, c.t_Every_Join, no rfl ⟨_, _, rfl, onecls c.y_Every, c.t_Every_Less, no rfl ⟨_, _, rfl, onecls c.y_Every, c.t_Every_Swap, no rfl ⟨_, _, rfl, onecls c.y_Every, c.t_Every_Later, no rfl ⟨_, _, rfl, onecls c.y_Every, c.t_Every_Noted, no rfl ⟨M, Msub.refl M, q⟩⟩⟩⟩⟩⟩
  | join a b =>
    match cs, hlen with
    | [x, y], _ => exact ⟨_, _, rfl, onecls c.y_Join, c.t_Join_Join, yes rfl ⟨rfl, _, ⟨x, y, rfl, hw, rfl⟩, M, Msub.refl M, q⟩⟩
  | less a b =>
    match cs, hlen with
    | [x, y], _ => exact ⟨_, _, rfl, onecls c.y_Less, c.t_Less_Join, no rfl ⟨_, _, rfl, onecls c.y_Less, c.t_Less_Less, yes rfl ⟨_, _, _, .inl rfl, rfl, rfl, _, _, _, .inl rfl, rfl, rfl, rfl, _, ⟨x, y, rfl, hw, rfl⟩, M, Msub.refl M, q⟩⟩⟩
  | swap a d b =>
    match cs, hlen with
    | [x, y], _ => exact ⟨_, _, rfl, onecls c.y_Swap, c.t_Swap_Join, no rfl ⟨_, _, rfl, onecls c.y_Swap, c.t_Swap_Less, no rfl ⟨_, _, rfl, onecls c.y_Swap, c.t_Swap_Swap, yes rfl ⟨_, _, _, .inl rfl, rfl, rfl, _, _, _, rfl, c.c_Swap, c.n_Swap_days, rfl, _, _, _, .inl rfl, rfl, rfl, rfl, _, ⟨x, d, y, rfl, hw, rfl⟩, M, Msub.refl M, q⟩⟩⟩⟩
  | later a m =>
    match cs, hlen with
    | [x], _ => exact ⟨_, _, rfl, onecls c.y_Later, c.t_Later_Join, no rfl ⟨_, _, rfl, onecls c.y_Later, c.t_Later_Less, no rfl ⟨_, _, rfl, onecls c.y_Later, c.t_Later_Swap, no rfl ⟨_, _, rfl, onecls c.y_Later, c.t_Later_Later, yes rfl ⟨_, _, _, .inl rfl, rfl, rfl, _, _, _, rfl, c.c_Later, c.n_Later_minutes, rfl, rfl, _, ⟨x, m, rfl, ok.2.1, ok.2.2, hw, rfl⟩, M, Msub.refl M, q⟩⟩⟩⟩⟩
  | noted a v =>
    match cs, hlen with
    | [x], _ => exact ⟨_, _, rfl, onecls c.y_Noted, c.t_Noted_Join, no rfl ⟨_, _, rfl, onecls c.y_Noted, c.t_Noted_Less, no rfl ⟨_, _, rfl, onecls c.y_Noted, c.t_Noted_Swap, no rfl ⟨_, _, rfl, onecls c.y_Noted, c.t_Noted_Later, no rfl ⟨_, _, rfl, onecls c.y_Noted, c.t_Noted_Noted, yes rfl ⟨_, _, _, .inl rfl, rfl, rfl, _, _, _, rfl, c.c_Noted, c.n_Noted_note, rfl, rfl, _, ⟨x, v, rfl, ok.2, hw, rfl⟩, M, Msub.refl M, q⟩⟩⟩⟩⟩⟩
theorem exp_kids {L : Ln} {n : Nat} {d z : LC} (hk : d.kd.isNone = false) (h : exp L (n + 1) d = some z) : ∃ zs : List LC, zs.length = d.kids.length ∧ z = rebuild d zs ∧ ∀ (i : Nat) (x : LC), d.kids[i]? = some x → ∃ y, zs[i]? = some y ∧ exp L n x = some y ∧ y.wt ≤ z.wt := by
  cases d with
  | as _ => cases hk
  | once s l => cases h; exact ⟨[], rfl, rfl, fun i x e => by simp [LC.kids] at e⟩
  | every d s l => cases h; exact ⟨[], rfl, rfl, fun i x e => by simp [LC.kids] at e⟩
  | later c m =>
    obtain ⟨x, e, rfl⟩ := Option.map_eq_some_iff.mp (show (exp L n c).map (fun x => LC.later x m) = some z from h)
    refine ⟨[x], rfl, rfl, fun i y ey => ?_⟩
    match i, ey with
    | 0, ey => cases ey; exact ⟨x, rfl, e, by show x.wt ≤ 1 + x.wt; omega⟩
    | i + 1, ey => simp [LC.kids] at ey
  | noted c m =>
    obtain ⟨x, e, rfl⟩ := Option.map_eq_some_iff.mp (show (exp L n c).map (fun x => LC.noted x m) = some z from h)
    refine ⟨[x], rfl, rfl, fun i y ey => ?_⟩
    match i, ey with
    | 0, ey => cases ey; exact ⟨x, rfl, e, by show x.wt ≤ 1 + x.wt; omega⟩
    | i + 1, ey => simp [LC.kids] at ey
  | less a b =>
    obtain ⟨x, y, e1, e2, rfl⟩ := two_some (show two LC.less (exp L n a) (exp L n b) = some z from h)
    refine ⟨[x, y], rfl, rfl, fun i v ey => ?_⟩
    match i, ey with
    | 0, ey => cases ey; exact ⟨x, rfl, e1, by show x.wt ≤ 1 + (x.wt + y.wt); omega⟩
    | 1, ey => cases ey; exact ⟨y, rfl, e2, by show y.wt ≤ 1 + (x.wt + y.wt); omega⟩
    | i + 2, ey => simp [LC.kids] at ey
  | swap a d b =>
    obtain ⟨x, y, e1, e2, rfl⟩ := two_some (show two (fun x y => LC.swap x d y) (exp L n a) (exp L n b) = some z from h)
    refine ⟨[x, y], rfl, rfl, fun i v ey => ?_⟩
    match i, ey with
    | 0, ey => cases ey; exact ⟨x, rfl, e1, by show x.wt ≤ 1 + (x.wt + y.wt); omega⟩
    | 1, ey => cases ey; exact ⟨y, rfl, e2, by show y.wt ≤ 1 + (x.wt + y.wt); omega⟩
    | i + 2, ey => simp [LC.kids] at ey
  | join a b =>
    obtain ⟨x, y, e1, e2, rfl⟩ := two_some (show two LC.join (exp L n a) (exp L n b) = some z from h)
    refine ⟨[x, y], rfl, rfl, fun i v ey => ?_⟩
    match i, ey with
    | 0, ey => cases ey; exact ⟨x, rfl, e1, by show x.wt ≤ 1 + (x.wt + y.wt); omega⟩
    | 1, ey => cases ey; exact ⟨y, rfl, e2, by show y.wt ≤ 1 + (x.wt + y.wt); omega⟩
    | i + 2, ey => simp [LC.kids] at ey
theorem kids_ok {d : LC} (h : okC d) : ∀ x ∈ d.kids, okC x := by
  intro x hx
  cases d with
  | once _ _ => cases hx
  | every _ _ _ => cases hx
  | as _ => cases hx
  | later c m => rw [List.mem_singleton.mp hx]; exact h.1
  | noted c m => rw [List.mem_singleton.mp hx]; exact h.1
  | less a b => rcases List.mem_cons.mp hx with e | e; (rw [e]; exact h.1); (rw [List.mem_singleton.mp e]; exact h.2)
  | swap a _ b => rcases List.mem_cons.mp hx with e | e; (rw [e]; exact h.1); (rw [List.mem_singleton.mp e]; exact h.2.2)
  | join a b => rcases List.mem_cons.mp hx with e | e; (rw [e]; exact h.1); (rw [List.mem_singleton.mp e]; exact h.2)
/-- the dict of meanings holds what these names mean -/
def Tells (K : PySem.W.Frag) (L : Ln) (kvs : List (Key × T)) (ns : List Str) : Prop := ∀ k ∈ ns, ∃ m e, exp L m (.as k) = some e ∧ kget (.inr k) kvs = some (pcT K e)
def F_meaning (K : PySem.W.Frag) (L : Ln) (n : Nat) : TSpec := fun ts M Q => ∃ d t lk kvs z, ts = [pcT K d, t] ∧ view M t = some (.dic lk kvs) ∧ exp L n d = some z ∧ okC d ∧ z.wt ≤ 60 ∧ Tells K L kvs d.names ∧ Q (pcT K z) M
theorem kp_meaning (c : Fx K mg) {L : Ln} {n : Nat} (k_meaning : Kp P w K mg base ("meaning", none) (7 + n) 2 (F_meaning K L n)) : Kp P w K mg base ("meaning", none) (7 + n + 1) 2 (F_meaning K L (n + 1)) := by
  have k_with_inner := kp_with_inner (P := P) (w := w) (base := base) c
  have m_inner := mk_inner (P := P) (w := w) (base := base) c
  refine kp_def (d := d_meaning) c M_meaning S_meaning rfl (fun FD => FD.bindsN fun _ _ _ _ _ _ us hl => match us, hl with | [_, _], _ => rfl) fun cdv A outer s H E hr => ⟨_, (
    (qss_cons (qs_if (qt_val (qe_callB (ct_isik c) c.b_isinstance (qa_cons (qv 0) (qa_cons (qe_gref c.g_As) qa_nil))))
      (qss_one (qs_ret (qe_dgetx (Tr.Room.u1 hr) (qv 1) (qe_fldk c (qv 0)))))
      qss_nil)
      (qss_one (qs_ret (qe_fn (k_with_inner) (hr.mono (by omega)) c.g_with_inner (qa_cons (qv 0) (qa_cons (qe_lc1 2 rfl S_meaning.nd (qi_lst (qe_meth0x (fun C e => (m_inner C e).ok (hr.mono (by omega))) (qv 0))) (blkOk_by (by rfl)) (fun s H C cl fp => qts_nil) (fun s H C cl fp => (qe_fn (k_meaning) (hr.mono (by omega)) c.g_meaning (qa_cons (qv 2) (qa_cons (qv 1) qa_nil))))) qa_nil))))))), ?_⟩
  rintro ts M Q hl ⟨d, t, lk, kvs, z, rfl, hv, hz, ok, hw, tell, q⟩
  obtain ⟨ty, h1, h2, h3⟩ := isi_as c d M
  refine ⟨ty, _, h1, h2, h3, ?_⟩
  cases hk : d.kd.isNone with
  | true =>
    cases d with
    | as m =>
      obtain ⟨j, e, he, hg⟩ := tell m List.mem_cons_self
      have ez := exp_det hz he
      subst ez
      exact yes rfl ⟨_, _, _, rfl, c.c_As, c.n_As_name, rfl, lk, kvs, _, hv, rfl, _, hg, M, Msub.refl M, q⟩
    | _ => cases hk
  | false =>
    obtain ⟨zs, hlen, rfl, kid⟩ := exp_kids hk hz
    refine no rfl ?_
    refine inner_call (wo := wVar 0) (s := [some (pcT K d), some t, none]) d (fun Q' q' => q') ?_
    refine lc_get (ts := pcsT K d.kids) (M1 := M) (pcsT K zs) kT ?_ (by unfold pcsT; rw [List.length_map, List.length_map, hlen]) (fun k t' et => ?_) ?_
    · unfold pcsT
      rw [List.length_map]
      cases d <;> first | (show (0 : Nat) < 100000; decide) | (show (1 : Nat) < 100000; decide) | (show (2 : Nat) < 100000; decide)
    · unfold pcsT at et
      rw [List.getElem?_map] at et
      obtain ⟨x, hx, rfl⟩ := Option.map_eq_some_iff.mp et
      obtain ⟨y, hy, ey, wy⟩ := kid k x hx
      refine ⟨_, pcT K y, rfl, by unfold pcsT; rw [List.getElem?_map, hy]; rfl, fun Q' q' => ⟨rfl, cl_of ⟨x, t, lk, kvs, y, rfl, hv, ey, kids_ok ok x (List.mem_of_getElem? hx), by omega, fun nm hn => tell nm ?_, q'⟩⟩⟩
      rw [names_kids hk]
      exact List.mem_flatMap.mpr ⟨x, List.mem_of_getElem? hx, hn⟩
    · exact ⟨rfl, cl_of ⟨d, zs, rfl, ok, hk, hlen, hw, M, Msub.refl M, q⟩⟩
end
section
variable {P : Program} {w : World} {K : PySem.W.Frag} {mg : Str → Option Value} {base : Heap}
theorem meaning_all (c : Fx K mg) (L : Ln) : ∀ n, Kp P w K mg base ("meaning", none) (7 + n) 2 (F_meaning K L n)
  | 0 => kp_vac (d := d_meaning) (ps := ["card", "meanings"]) c M_meaning (fun FD => FD.bindsN fun _ _ _ _ _ _ us hl => match us, hl with | [_, _], _ => rfl) fun ts M Q ⟨d, t, lk, kvs, z, _, _, h, _⟩ => by cases h
  | n + 1 => kp_meaning c (meaning_all c L n)
end
section
variable {P : Program} {w : World} {K : PySem.W.Frag} {mg : Str → Option Value} {base : Heap}

end
end Tr

set_option Elab.async false
set_option linter.all false
set_option maxRecDepth 100000
set_option maxHeartbeats 4000000
namespace Tr
open PySem PySem.Spec L2

/-! ### dicts of texts -/
theorem kget_put {k j : Key} {t : T} : ∀ {kvs : List (Key × T)}, kget j (kput k t kvs) = if k = j then some t else kget j kvs := by
  intro kvs
  unfold kput
  by_cases h : (kvs.any fun q => decide (q.1 = k)) = true
  · rw [if_pos h]
    induction kvs with
    | nil => simp at h
    | cons p r ih =>
      obtain ⟨i, u⟩ := p
      rw [List.map_cons]
      by_cases e : i = k
      · subst e
        rw [if_pos rfl]
        show (if i = j then some t else kget j (r.map fun q => if q.1 = i then (q.1, t) else q)) = if i = j then some t else (if i = j then some u else kget j r)
        by_cases e2 : i = j
        · rw [if_pos e2, if_pos e2]
        · rw [if_neg e2, if_neg e2, if_neg e2]
          by_cases h2 : (r.any fun q => decide (q.1 = i)) = true
          · rw [ih h2, if_neg e2]
          · have e3 : (r.map fun q => if q.1 = i then (q.1, t) else q) = r := by
              refine (List.map_congr_left fun q hq => ?_).trans (List.map_id _)
              rw [if_neg]
              · rfl
              · intro z
                exact h2 (List.any_eq_true.mpr ⟨q, hq, decide_eq_true z⟩)
            rw [e3]
      · rw [if_neg e]
        rw [List.any_cons, decide_eq_false e, Bool.false_or] at h
        show (if i = j then some u else kget j (r.map fun q => if q.1 = k then (q.1, t) else q)) = if k = j then some t else (if i = j then some u else kget j r)
        rw [ih h]
        by_cases e2 : i = j
        · subst e2
          rw [if_pos rfl, if_pos rfl, if_neg fun z => e z.symm]
        · rw [if_neg e2, if_neg e2]
  · rw [if_neg h]
    have nk : ∀ q ∈ kvs, q.1 ≠ k := fun q hq z => h (List.any_eq_true.mpr ⟨q, hq, decide_eq_true z⟩)
    clear h
    induction kvs with
    | nil => rfl
    | cons p r ih =>
      obtain ⟨i, u⟩ := p
      show (if i = j then some u else kget j (r ++ [(k, t)])) = if k = j then some t else (if i = j then some u else kget j r)
      rw [ih fun q hq => nk q (List.mem_cons_of_mem _ hq)]
      by_cases e2 : i = j
      · rw [if_pos e2, if_pos e2, if_neg fun z => nk _ List.mem_cons_self (e2.trans z.symm)]
      · rw [if_neg e2, if_neg e2]
theorem kput_keys {k : Key} {t : T} {kvs : List (Key × T)} : (k ∈ kvs.map (·.1) ∧ (kput k t kvs).map (·.1) = kvs.map (·.1)) ∨ (k ∉ kvs.map (·.1) ∧ (kput k t kvs).map (·.1) = kvs.map (·.1) ++ [k]) := by
  unfold kput
  by_cases h : (kvs.any fun q => decide (q.1 = k)) = true
  · refine .inl ⟨?_, ?_⟩
    · obtain ⟨q, hq, e⟩ := List.any_eq_true.mp h
      exact List.mem_map.mpr ⟨q, hq, of_decide_eq_true e⟩
    · rw [if_pos h, List.map_map]
      refine List.map_congr_left fun q _ => ?_
      show (if q.1 = k then (q.1, t) else q).1 = q.1
      split <;> rfl
  · refine .inr ⟨fun z => ?_, ?_⟩
    · obtain ⟨q, hq, e⟩ := List.mem_map.mp z
      exact h (List.any_eq_true.mpr ⟨q, hq, decide_eq_true e⟩)
    · rw [if_neg h, List.map_append]
      rfl
theorem kput_nodup {k : Key} {t : T} {kvs : List (Key × T)} (h : (kvs.map (·.1)).Nodup) : ((kput k t kvs).map (·.1)).Nodup := by
  rcases kput_keys (k := k) (t := t) (kvs := kvs) with ⟨_, e⟩ | ⟨n, e⟩
  · rw [e]; exact h
  · rw [e]
    refine List.nodup_append.mpr ⟨h, by simp, fun x hx y hy z => n ?_⟩
    rw [List.mem_singleton.mp hy] at z
    rw [← z]
    exact hx
theorem kput_mem {k j : Key} {t : T} {kvs : List (Key × T)} : j ∈ (kput k t kvs).map (·.1) ↔ j = k ∨ j ∈ kvs.map (·.1) := by
  rcases kput_keys (k := k) (t := t) (kvs := kvs) with ⟨h, e⟩ | ⟨n, e⟩
  · rw [e]
    exact ⟨.inr, fun z => z.elim (fun e => e ▸ h) id⟩
  · rw [e, List.mem_append, List.mem_singleton]
    exact Or.comm
theorem kget_mem {k : Key} {t : T} : ∀ {kvs : List (Key × T)}, kget k kvs = some t → k ∈ kvs.map (·.1)
  | [], h => by cases h
  | (j, u) :: r, h => by
    have h : (if j = k then some u else kget k r) = some t := h
    by_cases e : j = k
    · rw [e]; exact List.mem_cons_self
    · rw [if_neg e] at h
      exact List.mem_cons_of_mem _ (kget_mem h)
/-- pigeons -/
theorem few_of {α : Type} [DecidableEq α] : ∀ (l m : List α), l.Nodup → (∀ x ∈ l, x ∈ m) → l.length ≤ m.length
  | [], _, _, _ => Nat.zero_le _
  | x :: l, m, nd, h => by
    obtain ⟨n1, n2⟩ := List.nodup_cons.mp nd
    have ih := few_of l (m.erase x) n2 fun y hy => (List.mem_erase_of_ne fun (e : y = x) => n1 (by rw [← e]; exact hy)).2 (h y (List.mem_cons_of_mem _ hy))
    have e := List.length_erase_of_mem (h x List.mem_cons_self)
    have p := List.length_pos_of_mem (h x List.mem_cons_self)
    rw [List.length_cons]
    omega
theorem lget_mem {k : Str} {c : LC} : ∀ {L : Ln}, lget k L = some c → (k, c) ∈ L
  | [], h => by cases h
  | (j, d) :: r, h => by
    have h : (if j = k then some d else lget k r) = some c := h
    by_cases e : j = k
    · rw [if_pos e] at h
      cases h
      rw [e]
      exact List.mem_cons_self
    · rw [if_neg e] at h
      exact List.mem_cons_of_mem _ (lget_mem h)
theorem lget_some {k : Str} : ∀ {L : Ln}, k ∈ L.map (·.1) → ∃ c, lget k L = some c
  | [], h => by simp at h
  | (j, d) :: r, h => by
    by_cases e : j = k
    · exact ⟨d, if_pos e⟩
    · rcases List.mem_cons.mp h with z | z
      · exact absurd z.symm e
      · obtain ⟨c, hc⟩ := lget_some z
        exact ⟨c, (if_neg e).trans hc⟩
/-- what is counted so far -/
structure Memo (L : Ln) (kvs : List (Key × T)) : Prop where
  val : ∀ k t, kget (.inr k) kvs = some t → ∃ m e, exp L m (.as k) = some e ∧ t = .int (e.wt : Nat)
  nd : (kvs.map (·.1)).Nodup
  sub : ∀ j ∈ kvs.map (·.1), ∃ k c, j = .inr k ∧ lget k L = some c
theorem Memo.few {L : Ln} {kvs : List (Key × T)} (h : Memo L kvs) (hL : L.length ≤ 10) : kvs.length < 100000 := by
  have e := few_of (kvs.map (·.1)) (L.map fun p => (Sum.inr p.1 : Key)) h.nd fun j hj => by
    obtain ⟨k, c, rfl, hc⟩ := h.sub j hj
    exact List.mem_map.mpr ⟨(k, c), lget_mem hc, rfl⟩
  rw [List.length_map, List.length_map] at e
  omega
theorem Memo.nil (L : Ln) : Memo L [] := ⟨fun k t h => (by cases h), by simp, fun j h => by simp at h⟩
theorem Memo.put {L : Ln} {kvs : List (Key × T)} (h : Memo L kvs) {k : Str} {m : Nat} {e c : LC} (he : exp L m (.as k) = some e) (hc : lget k L = some c) : Memo L (kput (.inr k) (.int (e.wt : Nat)) kvs) := by
  refine ⟨fun j t hj => ?_, kput_nodup h.nd, fun j hj => ?_⟩
  · rw [kget_put] at hj
    by_cases z : (Sum.inr k : Key) = .inr j
    · rw [if_pos z] at hj
      cases hj
      exact ⟨m, e, by rw [← Sum.inr.inj z]; exact he, rfl⟩
    · rw [if_neg z] at hj
      exact h.val j t hj
  · rcases kput_mem.1 hj with z | z
    · exact ⟨k, c, z, hc⟩
    · exact h.sub j z
theorem rebuild_wt {L : Ln} {n : Nat} {d z : LC} (hk : d.kd.isNone = false) (h : exp L (n + 1) d = some z) {zs : List LC} (e : z = rebuild d zs) (hl : zs.length = d.kids.length) : z.wt = 1 + (zs.map LC.wt).sum := by
  subst e
  cases d with
  | as _ => cases hk
  | once s l => match zs, hl with | [], _ => rfl
  | every d s l => match zs, hl with | [], _ => rfl
  | later c m => match zs, hl with | [x], _ => rfl
  | noted c m => match zs, hl with | [x], _ => rfl
  | less a b => match zs, hl with | [x, y], _ => rfl
  | swap a d b => match zs, hl with | [x, y], _ => rfl
  | join a b => match zs, hl with | [x, y], _ => rfl

section
variable {P : Program} {w : World} {K : PySem.W.Frag} {mg : Str → Option Value} {base : Heap}

def F_count_card (K : PySem.W.Frag) (L : Ln) (n : Nat) : TSpec := fun ts M Q => ∃ a d f lk kvs z, ts = [.adr a, pcT K d, .adr f] ∧ a ≠ f ∧ M a = some (.dic lk (linesT K L)) ∧ M f = some (.dic .un kvs) ∧ exp L n d = some z ∧ L.length ≤ 10 ∧ Memo L kvs ∧
  ∀ kvs', Memo L kvs' → Q (.int (z.wt : Nat)) (mset M f (.dic .un kvs'))
theorem kp_count_card (c : Fx K mg) {L : Ln} {n : Nat} (k_count_card : Kp P w K mg base ("count_card", none) (1 + n) 3 (F_count_card K L n)) : Kp P w K mg base ("count_card", none) (1 + n + 1) 3 (F_count_card K L (n + 1)) := by
  have m_inner := mk_inner (P := P) (w := w) (base := base) c
  refine kp_def (d := d_count_card) c M_count_card S_count_card rfl (fun FD => FD.bindsN fun _ _ _ _ _ _ us hl => match us, hl with | [_, _, _], _ => rfl) fun cdv A outer s H E hr => ⟨_, (
    (qss_cons (qs_if (qt_not (qt_val (qe_callB (ct_isik c) c.b_isinstance (qa_cons (qv 1) (qa_cons (qe_gref c.g_As) qa_nil)))))
      (qss_one (qs_ret (qe_op ot_add qe_int (qe_callB (ct_sum rfl) c.b_sum (qa_cons (qe_lc1 3 rfl S_count_card.nd (qi_lst (qe_meth0x (fun C e => (m_inner C e).ok (hr.mono (by omega))) (qv 1))) (blkOk_by (by rfl)) (fun s H C cl fp => qts_nil) (fun s H C cl fp => (qe_fn (k_count_card) (hr.mono (by omega)) c.g_count_card (qa_cons (qv 0) (qa_cons (qv 3) (qa_cons (qv 2) qa_nil)))))) qa_nil)))))
      qss_nil)
      (qss_cons (qs_if (qt_dnotinx (Tr.Room.u1 hr) (qe_fldk c (qv 1)) (qv 2))
      (qss_one (qs_dputx (Tr.Room.u1 hr) (qv 2) (qe_fldk c (qv 1)) (qe_fn (k_count_card) (hr.mono (by omega)) c.g_count_card (qa_cons (qv 0) (qa_cons (qe_dgetx (Tr.Room.u1 hr) (qv 0) (qe_fldk c (qv 1))) (qa_cons (qv 2) qa_nil))))))
      qss_nil)
      (qss_one (qs_ret (qe_dgetx (Tr.Room.u1 hr) (qv 2) (qe_fldk c (qv 1)))))))), ?_⟩
  rintro ts M Q hl ⟨a, d, f, lk, kvs, z, rfl, hne, ha, hf, hz, hL, memo, q⟩
  obtain ⟨ty, h1, h2, h3⟩ := isi_as c d M
  refine ⟨ty, _, h1, h2, h3, ?_⟩
  cases hk : d.kd.isNone with
  | true =>
    cases d with
    | as k =>
      refine no rfl ⟨_, _, _, rfl, c.c_As, c.n_As_name, rfl, .un, kvs, _, hf, rfl, ?_⟩
      have hz' : (lget k L).bind (exp L n) = some z := hz
      cases hc : lget k L with
      | none => rw [hc] at hz'; cases hz'
      | some cc =>
        rw [hc] at hz'
        have hz' : exp L n cc = some z := hz'
        cases hg : kget (.inr k) kvs with
        | some t =>
          obtain ⟨m, e, he, rfl⟩ := memo.val k t hg
          have ez := exp_det hz he
          subst ez
          refine no rfl ⟨_, _, _, rfl, c.c_As, c.n_As_name, rfl, .un, kvs, _, hf, rfl, _, hg, M, Msub.refl M, ?_⟩
          have q' := q kvs memo
          rw [mset_id hf] at q'
          exact q'
        | none =>
          refine yes rfl ⟨_, _, _, rfl, c.c_As, c.n_As_name, rfl, lk, linesT K L, _, ha, rfl, _, (kget_lines k L).trans (by rw [hc]; rfl), rfl, cl_of ⟨a, cc, f, lk, kvs, z, rfl, hne, ha, hf, hz', hL, memo, fun kvs' memo' => ?_⟩⟩
          have mp := memo'.put hz hc
          refine ⟨_, _, _, rfl, c.c_As, c.n_As_name, rfl, f, kvs', _, rfl, mset_same, rfl, memo'.few hL, ?_⟩
          rw [mset_set]
          refine ⟨_, _, _, rfl, c.c_As, c.n_As_name, rfl, .un, _, _, mset_same, rfl, _, by rw [kget_put, if_pos rfl], _, Msub.refl _, q _ mp⟩
    | _ => cases hk
  | false =>
    obtain ⟨zs, hlen, ez, kid⟩ := exp_kids hk hz
    refine yes rfl ?_
    refine inner_call (wo := wVar 1) (s := [some (.adr a), some (pcT K d), some (.adr f), none]) d (fun Q' q' => q') ?_
    refine ⟨fun k acc M' => acc = (zs.take k).map (fun y => T.int (y.wt : Nat)) ∧ ∃ kvs', Memo L kvs' ∧ M' = mset M f (.dic .un kvs'), ⟨rfl, kvs, memo, (mset_id hf).symm⟩, fun _ _ _ _ => kT, ?_, ?_⟩
    · rintro k acc M' t et ⟨rfl, kvs', memo', rfl⟩
      unfold pcsT at et
      rw [List.getElem?_map] at et
      obtain ⟨x, hx, rfl⟩ := Option.map_eq_some_iff.mp et
      obtain ⟨y, hy, ey, wy⟩ := kid k x hx
      refine ⟨_, rfl, fun _ => ⟨rfl, cl_of ⟨a, x, f, lk, kvs', y, rfl, hne, (mset_ne hne).trans ha, mset_same, ey, hL, memo', fun kvs2 memo2 => ⟨?_, ?_, kvs2, memo2, mset_set⟩⟩⟩, fun e => (nomatch e)⟩
      · rw [List.length_map, List.length_take, hlen]
        cases d <;> first | (show min k 0 < 100000; omega) | (show min k 1 < 100000; omega) | (show min k 2 < 100000; omega)
      · rw [take_next hy, List.map_append]
        rfl
    · rintro acc M' ⟨rfl, kvs', memo', rfl⟩
      rw [show (pcsT K d.kids).length = zs.length from (List.length_map _).trans hlen.symm, List.take_length]
      refine ⟨zs.map fun y => ((y.wt : Nat) : Int), by rw [List.map_map]; rfl, _, Msub.refl _, ?_⟩
      have q' := q kvs' memo'
      rw [rebuild_wt hk hz ez hlen] at q'
      have e2 := wt_sum zs
      show Q (.int (1 + (zs.map fun y => ((y.wt : Nat) : Int)).sum)) _
      rw [e2]
      have e3 : (1 : Int) + (((zs.map LC.wt).sum : Nat) : Int) = ((1 + (zs.map LC.wt).sum : Nat) : Int) := by omega
      rw [e3]
      exact q'
end
section
variable {P : Program} {w : World} {K : PySem.W.Frag} {mg : Str → Option Value} {base : Heap}
theorem count_all (c : Fx K mg) (L : Ln) : ∀ n, Kp P w K mg base ("count_card", none) (1 + n) 3 (F_count_card K L n)
  | 0 => kp_vac (d := d_count_card) (ps := ["lines", "card", "found"]) c M_count_card (fun FD => FD.bindsN fun _ _ _ _ _ _ us hl => match us, hl with | [_, _, _], _ => rfl) fun ts M Q ⟨a, d, f, lk, kvs, z, _, _, _, _, h, _⟩ => by cases h
  | n + 1 => kp_count_card c (count_all c L n)
end
section
variable {P : Program} {w : World} {K : PySem.W.Frag} {mg : Str → Option Value} {base : Heap}

end
end Tr

set_option Elab.async false
set_option linter.all false
set_option maxRecDepth 100000
set_option maxHeartbeats 4000000
namespace Tr
open PySem L2
theorem Ext.sideOwn {G G' : Hp} {M M' : Mh} {H H' : Hp} {D : Addr} {u : HO} {o : OO} (x : Ext G M H G' M' H') (h : H D = none) (hg : G' D = none) (hm : M' D = none) (ho : OwnAt G' (upd H' D u) D o) : Ext G M H G' (mset M' D o) (upd H' D u) := by
  refine ⟨x.gs, ⟨fun b v e => ?_, fun l v e => ?_⟩, fun b v e m => ?_, x.fr, fun b v e m => ?_⟩
  · rw [upd_ne (ne_of_none e hg)]
    exact x.st.gh b v e
  · by_cases z : l = D
    · subst z
      rw [mset_same] at e
      cases e
      exact ⟨hg, ho⟩
    · rw [mset_ne z] at e
      obtain ⟨h1, h2⟩ := x.st.own l v e
      exact ⟨h1, h2.mono (Same.refl _) (upd_ne z)⟩
  · rw [upd_ne (ne_of_none e h)]
    exact x.hs b v e m
  · rw [mset_ne (ne_of_none e h)]
    exact x.fm b v e m
section
variable {X : Cx}
/-- {k: v} -/
def wDisp1 (wk wv : WE) : WE := fun s M Q => wk s M fun x M1 => wv s M1 fun y M2 => ∃ k, keyT x = some k ∧ ∀ l, M2 l = none → Q (.adr l) (mset M2 l (.dic .un [(k, y)]))
theorem qe_disp1 {e f : Expr} {wk wv : WE} {pos : Pos} (hk : QE X e wk) (hv : QE X f wv) : QE X (.Dict [some e] [f] pos) (wDisp1 wk wv) := by
  refine ⟨PEw (pe_disp (pps_cons hk.pe hv.pe pps_nil) rfl rfl (List.cons_ne_nil _ _) (Nat.le_of_ble_eq_true rfl)) fun σ H Q ⟨G, M, s, Qt, S, R, z, k⟩ => fun p hp => ?_,
    fun s M Q Q' i z => hk.mono s M _ _ (fun x M1 q => hv.mono s M1 _ _ (fun y M2 ⟨j, e1, q2⟩ => ⟨j, e1, fun l hl => i _ _ (q2 l hl)⟩) q) z⟩
  have e0 := (Ext.refl S).side (u := .dK []) hp (S.gnone hp) (S.mnone hp)
  refine ⟨G, M, s, _, e0.st, R, z, fun x M1 G1 H1 xv q e1 rx => ⟨G1, M1, s, _, e1.st, R.mono e1.gs, q, fun y M2 G2 H2 yv q2 e2 ry => ?_⟩⟩
  obtain ⟨j, ej, q3⟩ := q2
  have e12 := e1.trans e2
  have hu : upd H p (HO.dK []) p = some (.dK []) := upd_same
  have m0 : M p = none := S.mnone hp
  have m2 : M2 p = none := e12.fm p _ hu m0
  have g2 : G2 p = none := (e12.fr p _ hu m0).trans (S.gnone hp)
  have h2 : H2 p = some (.dK []) := e12.hs p _ hu m0
  have ek := keyT_rep ej (rx.mono e2.gs)
  refine ⟨h2, [(j, yv)], by rw [ek]; rfl, Nat.le_of_ble_eq_true rfl, ?_⟩
  have x3 := (e0.trans e12).sideOwn (u := .dK (mergeK [] [(j, yv)])) (o := .dic .un [(j, y)]) hp g2 m2 ⟨[(j, yv)], upd_same, RepK.cons ry RepK.nil⟩
  exact k _ _ _ _ _ (q3 p m2) x3 rep_adr
/-- len(x) of a list or a tuple, owned or solid -/
theorem ct_lenLx : CaT X (.builtin "len") (fun ts M Q => ∃ t xs, ts = [t] ∧ view M t = some (.lst xs) ∧ Q (.int (xs.length : Nat)) M) :=
  ct_len.weak (fun ts M Q ⟨t, xs, e, v, z⟩ => by
    subst e
    show trLen t M Q
    unfold trLen seqW
    rw [v]
    exact z) fun ts M Q Q' i ⟨t, xs, e, v, z⟩ => ⟨t, xs, e, v, i _ _ z⟩
end
end Tr

set_option Elab.async false
set_option linter.all false
set_option maxRecDepth 100000
set_option maxHeartbeats 4000000
namespace Tr
open PySem PySem.Spec L2

/-! ### lines that are well kept -/
structure LinesOk (L : Ln) (r : Str → Nat) : Prop where
  nd : (L.map (·.1)).Nodup
  few : L.length ≤ 5
  wd : ∀ k c, lget k L = some c → isW k
  ok : okL L
  low : ∀ k c, lget k L = some c → c.ht < 3 ∧ c.wt ≤ 7
  rank : ∀ k c, lget k L = some c → ∀ j ∈ c.names, (∃ c', lget j L = some c') ∧ r j < r k
  full : ∀ k c, lget k L = some c → ∃ z, exp L 30 (.as k) = some z ∧ z.wt ≤ 30
theorem lget_at {L : Ln} (nd : (L.map (·.1)).Nodup) {k : Str} {c : LC} (h : (k, c) ∈ L) : lget k L = some c := by
  induction L with
  | nil => cases h
  | cons p r ih =>
    obtain ⟨j, d⟩ := p
    obtain ⟨n1, n2⟩ := List.nodup_cons.mp nd
    rcases List.mem_cons.mp h with e | e
    · cases e
      exact if_pos rfl
    · have ne : j ≠ k := fun z => n1 (by rw [z]; exact List.mem_map.mpr ⟨(k, c), e, rfl⟩)
      exact (if_neg ne).trans (ih n2 e)
theorem keys_at {K : PySem.W.Frag} {L : Ln} {i : Nat} {t : T} (h : (keysT (linesT K L))[i]? = some t) : ∃ k c, (k, c) ∈ L ∧ t = .str k ∧ L[i]? = some (k, c) := by
  unfold keysT linesT at h
  rw [List.map_map, List.getElem?_map] at h
  obtain ⟨p, hp, e⟩ := Option.map_eq_some_iff.mp h
  exact ⟨p.1, p.2, List.mem_of_getElem? hp, e.symm, hp⟩
theorem items_at {K : PySem.W.Frag} {L : Ln} {i : Nat} {t : T} (h : (itemsT (linesT K L))[i]? = some t) : ∃ k c, (k, c) ∈ L ∧ t = .tup [.str k, pcT K c] ∧ L[i]? = some (k, c) := by
  unfold itemsT linesT at h
  rw [List.map_map, List.getElem?_map] at h
  obtain ⟨p, hp, e⟩ := Option.map_eq_some_iff.mp h
  exact ⟨p.1, p.2, List.mem_of_getElem? hp, e.symm, hp⟩
theorem keysT_len {K : PySem.W.Frag} (L : Ln) : (keysT (linesT K L)).length = L.length := by
  unfold keysT linesT
  rw [List.length_map, List.length_map]
theorem itemsT_len {K : PySem.W.Frag} (L : Ln) : (itemsT (linesT K L)).length = L.length := by
  unfold itemsT linesT
  rw [List.length_map, List.length_map]
theorem kget_none_not {k : Key} : ∀ {kvs : List (Key × T)}, kget k kvs = none → k ∉ kvs.map (·.1)
  | [], _ => by simp
  | (j, u) :: r, h => by
    have h : (if j = k then some u else kget k r) = none := h
    by_cases e : j = k
    · rw [if_pos e] at h; cases h
    · rw [if_neg e] at h
      intro z
      rcases List.mem_cons.mp z with z | z
      · exact e z.symm
      · exact kget_none_not h z
theorem msub_back {M X : Mh} {a : Addr} {o : OO} (h : M a = some o) (s : ∀ b p, b ≠ a → M b = some p → X b = some p) : Msub M (mset X a o) := fun b p e => by
  by_cases z : b = a
  · subst z
    rw [h] at e
    cases e
    exact mset_same
  · rw [mset_ne z]
    exact s b p z e
theorem ne_free {M : Mh} {a f : Addr} {o : OO} (h : M a = some o) (k : M f = none) : a ≠ f := fun z => by
  rw [z, k] at h
  cases h

section
variable {P : Program} {w : World} {K : PySem.W.Frag} {mg : Str → Option Value} {base : Heap}

def F_most_meant (K : PySem.W.Frag) (L : Ln) : TSpec := fun ts M Q => ∃ a r, ts = [.adr a] ∧ M a = some (.dic .un (linesT K L)) ∧ LinesOk L r ∧ L ≠ [] ∧ ∀ m : Int, m ≤ 30 → Q (.int m) M
theorem kp_most_meant (c : Fx K mg) {L : Ln} : Kp P w K mg base ("most_meant", none) 60 1 (F_most_meant K L) := by
  have k_As_init := kp_As_init (P := P) (w := w) (base := base) c
  have k_count_card := count_all (P := P) (w := w) (base := base) c L 31
  refine kp_def (d := d_most_meant) c M_most_meant S_most_meant rfl (fun FD => FD.bindsN fun _ _ _ _ _ _ us hl => match us, hl with | [_], _ => rfl) fun cdv A outer s H E hr => ⟨_, (
    (qss_cons (qs_set 1 S_most_meant.nd qe_dicO)
      (qss_one (qs_ret (qe_callB (ct_max rfl) c.b_max (qa_cons (qe_lock (qe_lc1 2 rfl S_most_meant.nd (qi_keysx (qv 0)) (blkOk_by (by rfl)) (fun s H C cl fp => qts_nil) (fun s H C cl fp => (qe_fn (k_count_card) (hr.mono (by omega)) c.g_count_card (qa_cons (qv 0) (qa_cons (qe_obj rfl c.k_As (k_As_init) (hr.mono (by omega)) c.g_As (qa_cons (qv 2) qa_nil)) (qa_cons (qv 1) qa_nil))))))) qa_nil)))))), ?_⟩
  rintro ts M Q hl ⟨a, r, rfl, ha, ok, hne, q⟩
  intro f hf
  have ne := ne_free ha hf
  have hlen := ok.few
  refine ⟨a, linesT K L, (mset_ne ne).trans ha, fun o vs => ⟨a, o, vs, _, rfl, mset_same, ?_⟩⟩
  refine ⟨fun k acc M' => ∃ (kvs : List (Key × T)) (ns : List Int), Memo L kvs ∧ M' = mset (mset M a (.dic (.lk o vs) (linesT K L))) f (.dic .un kvs) ∧ acc = ns.map T.int ∧ ns.length = k ∧ ∀ n ∈ ns, n ≤ 30, ?_, ?_, ?_, ?_⟩
  · exact ⟨[], [], Memo.nil L, mset_comm ne.symm, rfl, rfl, fun n h => by cases h⟩
  · rintro k acc M' ⟨kvs, ns, memo, rfl, _, _, _⟩
    exact (mset_ne ne).trans mset_same
  · rintro k acc M' t et ⟨kvs, ns, memo, rfl, rfl, hk, hn⟩
    obtain ⟨nm, cc, hm, rfl, hi⟩ := keys_at et
    have hg := lget_at ok.nd hm
    obtain ⟨z, hz, hw⟩ := ok.full nm cc hg
    have lk : k < L.length := (List.getElem?_eq_some_iff.mp hi).1
    refine ⟨_, rfl, fun _ => ⟨rfl, asF nm, ⟨nm, rfl, ok.wd nm cc hg, rfl⟩, rfl, cl_of ⟨a, .as nm, f, .lk o vs, kvs, z, rfl, ne, (mset_ne ne).trans mset_same, mset_same, exp_le hz (by omega), by omega, memo, fun kvs2 memo2 => ⟨?_, kvs2, ns ++ [((z.wt : Nat) : Int)], memo2, mset_set, ?_, ?_, ?_⟩⟩⟩, fun e => (nomatch e)⟩
    · rw [List.length_map]; omega
    · rw [List.map_append]; rfl
    · rw [List.length_append, hk]; rfl
    · intro n h
      rcases List.mem_append.mp h with e | e
      · exact hn n e
      · rw [List.mem_singleton.mp e]; omega
  · rintro acc M' ⟨kvs, ns, memo, rfl, rfl, hk, hn⟩
    rw [keysT_len] at hk
    refine ⟨(mset_ne ne).trans mset_same, ns, rfl, fun z => hne (List.eq_nil_of_length_eq_zero (by rw [← hk, z]; rfl)), fun m hm _ => ⟨M, ?_, q m (hn m hm)⟩⟩
    refine msub_back ha fun b p hb e => ?_
    have hbf : b ≠ f := ne_free e hf
    rw [mset_ne hbf, mset_ne hb]
    exact e
def F_chain_round (K : PySem.W.Frag) (L : Ln) : TSpec := fun ts M Q => ∃ a r nm cc, ts = [.adr a, .str nm] ∧ M a = some (.dic .un (linesT K L)) ∧ LinesOk L r ∧ lget nm L = some cc ∧ Q .non M
structure Walk (L : Ln) (r : Str → Nat) (nm : Str) (row : List Str) (kvs : List (Key × T)) : Prop where
  nd : row.Nodup
  mem : ∀ k ∈ row, (∃ c, lget k L = some c) ∧ (k = nm ∨ r k < r nm)
  key : ∀ k, (Sum.inr k : Key) ∈ kvs.map (·.1) ↔ k ∈ row
  len : kvs.length ≤ row.length
theorem kp_chain_round (c : Fx K mg) {L : Ln} : Kp P w K mg base ("chain_round", none) 60 2 (F_chain_round K L) := by
  have k_names_in := names_in_all (P := P) (w := w) (base := base) c 40
  refine kp_def (d := d_chain_round) c M_chain_round S_chain_round rfl (fun FD => FD.bindsN fun _ _ _ _ _ _ us hl => match us, hl with | [_, _], _ => rfl) fun cdv A outer s H E hr => ⟨_, (
    (qss_cons (qs_set 2 S_chain_round.nd (qe_disp1 (qv 1) qe_non))
      (qss_cons (qs_set 3 S_chain_round.nd (qe_lstO (qa_cons (qv 1) qa_nil)))
      (qss_cons (qs_set 4 S_chain_round.nd qe_int)
      (qss_cons (qs_while PassesOwn.never (qt_cmp ot_lt (qv 4) (qe_callB ct_lenLx c.b_len (qa_cons (qv 3) qa_nil)))
      (qss_cons (qs_for PassesOwn.never rfl (qi_lst (qe_fn (k_names_in) (hr.mono (by omega)) c.g_names_in (qa_cons (qe_dgetx (Tr.Room.u1 hr) (qv 0) (qe_ix it_seqx (qv 3) (qv 4))) qa_nil))) (qg_name 5 S_chain_round.nd)
      (qss_cons (qs_if (qt_cmp ot_eq (qv 5) (qv 1))
      qss_never
      qss_nil)
      (qss_one (qs_if (qt_dnotinx (Tr.Room.u1 hr) (qv 5) (qv 2))
      (qss_cons (qs_dputx (Tr.Room.u1 hr) (qv 2) (qv 5) (qe_ix it_seqx (qv 3) (qv 4)))
      (qss_one (qs_expr (qe_appendx (qv 3) (qa_cons (qv 5) qa_nil)))))
      qss_nil))))
      (qss_one (qs_aug 4 S_chain_round.nd qe_int))))
      (qss_one (qs_ret qe_non))))))), ?_⟩
  rintro ts M Q hl ⟨a, r, nm, cc, rfl, ha, ok, hnm, q⟩
  refine ⟨_, rfl, fun g hg => ⟨Nat.le_of_ble_eq_true rfl, fun l hM => ?_⟩⟩
  have ng := ne_free ha hg
  have nl : a ≠ l := ne_free ((mset_ne ng).trans ha) hM
  have gl : g ≠ l := ne_free mset_same hM
  have small : ∀ row : List Str, row.Nodup → (∀ k ∈ row, ∃ c, lget k L = some c) → row.length ≤ 5 := fun row nd h => by
    have e := few_of row (L.map (·.1)) nd fun k hk => by
      obtain ⟨c, hc⟩ := h k hk
      exact List.mem_map.mpr ⟨(k, c), lget_mem hc, rfl⟩
    rw [List.length_map] at e
    have := ok.few
    omega
  -- the state: what came, the row
  let St (row : List Str) (kvs : List (Key × T)) : Mh := mset (mset M g (.dic .un kvs)) l (.lst (strsT1 row))
  have sa : ∀ row kvs, St row kvs a = some (.dic .un (linesT K L)) := fun row kvs => (mset_ne nl).trans ((mset_ne ng).trans ha)
  have sg : ∀ row kvs, St row kvs g = some (.dic .un kvs) := fun row kvs => (mset_ne gl).trans mset_same
  have sl : ∀ row kvs, St row kvs l = some (.lst (strsT1 row)) := fun row kvs => mset_same
  have putg : ∀ row kvs kvs', mset (St row kvs) g (.dic .un kvs') = St row kvs' := fun row kvs kvs' => by
    show mset (mset (mset M g _) l _) g _ = _
    rw [mset_comm (Ne.symm gl), mset_set]
  have putl : ∀ row row' kvs, mset (St row kvs) l (.lst (strsT1 row')) = St row' kvs := fun row row' kvs => mset_set
  have back : ∀ row kvs, Msub M (St row kvs) := fun row kvs b o e => by
    have e1 : b ≠ g := ne_free e hg
    have e2 : b ≠ l := ne_free ((mset_ne e1).trans e) hM
    exact (mset_ne e2).trans ((mset_ne e1).trans e)
  refine ⟨fun m s' M' => ∃ (row : List Str) (kvs : List (Key × T)) (at_ : Nat) (o : Option T), Walk L r nm row kvs ∧ M' = St row kvs ∧ s' = [some (.adr a), some (.str nm), some (.adr g), some (.adr l), some (.int (at_ : Nat)), o] ∧ m + at_ = 6 ∧ at_ ≤ row.length, ⟨6, [nm], [(.inr nm, .non)], 0, none, ⟨by simp, ?_, ?_, Nat.le_refl _⟩, rfl, rfl, rfl, Nat.zero_le _⟩, ?_⟩
  · intro k hk
    rw [List.mem_singleton.mp hk]
    exact ⟨⟨cc, hnm⟩, .inl rfl⟩
  · intro k
    simp
  rintro m s' M' ⟨row, kvs, at_, o, wk, rfl, rfl, hm, hat⟩
  have l5 := small row wk.nd fun k hk => (wk.mem k hk).1
  have ln : (strsT1 row).length = row.length := List.length_map _
  refine ⟨.adr l, strsT1 row, rfl, sl row kvs, ?_⟩
  show (decide (((at_ : Nat) : Int) < (((strsT1 row).length : Nat) : Int)) = true → _) ∧ (decide (((at_ : Nat) : Int) < (((strsT1 row).length : Nat) : Int)) = false → _)
  rw [ln]
  by_cases lt : at_ < row.length
  · refine yesd (by omega) ?_
    obtain ⟨⟨cx, hcx⟩, hr⟩ := wk.mem row[at_] (List.getElem_mem lt)
    have low := ok.low _ cx hcx
    have tg : ∀ row2 : List Str, row2[at_]? = row[at_]? → tget (strsT1 row2) ((at_ : Nat) : Int) = some (.str row[at_]) := fun row2 e => by
      unfold tget
      rw [if_pos (by omega)]
      show (strsT1 row2)[((at_ : Nat) : Int).toNat]? = _
      rw [Int.toNat_natCast, List.getElem?_map, e, List.getElem?_eq_getElem lt]
      rfl
    refine ⟨strsT1 row, _, _, .inl (sl row kvs), rfl, tg row rfl, .un, linesT K L, _, sa row kvs, rfl, _, (kget_lines _ L).trans (by rw [hcx]; rfl), rfl, cl_of ⟨cx, rfl, by omega, by omega, ?_⟩⟩
    refine ⟨fun k s' M' => ∃ (row2 : List Str) (kvs2 : List (Key × T)) (o2 : Option T), Walk L r nm row2 kvs2 ∧ M' = St row2 kvs2 ∧ s' = [some (.adr a), some (.str nm), some (.adr g), some (.adr l), some (.int (at_ : Nat)), o2] ∧ row.length ≤ row2.length ∧ row2[at_]? = row[at_]?, ⟨row, kvs, o, wk, rfl, rfl, Nat.le_refl _, rfl⟩, fun _ _ _ _ => kT, ?_, ?_⟩
    · rintro k s' M' t et ⟨row2, kvs2, o2, wk2, rfl, rfl, hl2, h2⟩
      obtain ⟨j, hj, rfl⟩ := List.mem_map.mp (List.mem_of_getElem? et)
      obtain ⟨⟨cj, hcj⟩, rj⟩ := ok.rank _ cx hcx j hj
      have rn : r j < r nm := by
        rcases hr with e | e
        · rw [← e]; exact rj
        · omega
      have jn : ¬ j = nm := fun z => by rw [z] at rn; omega
      refine nod jn ?_
      have l25 := small row2 wk2.nd fun k hk => (wk2.mem k hk).1
      refine ⟨.un, kvs2, _, sg row2 kvs2, rfl, ?_⟩
      cases hg2 : kget (.inr j) kvs2 with
      | some u => exact no rfl ⟨row2, kvs2, some (.str j), wk2, rfl, rfl, hl2, h2⟩
      | none =>
        have nk := kget_none_not hg2
        have nr : j ∉ row2 := fun z => nk ((wk2.key j).2 z)
        refine yes rfl ⟨strsT1 row2, _, _, .inl (sl row2 kvs2), rfl, tg row2 h2, g, kvs2, _, rfl, sg row2 kvs2, rfl, by have := wk2.len; omega, ?_⟩
        rw [putg]
        refine ⟨⟨l, _, rfl, sl _ _, trivial⟩, l, _, rfl, sl _ _, by rw [List.length_map]; omega, ?_⟩
        have e3 : strsT1 row2 ++ [T.str j] = strsT1 (row2 ++ [j]) := by unfold strsT1; rw [List.map_append]; rfl
        rw [e3, putl]
        refine ⟨row2 ++ [j], _, some (.str j), ⟨?_, ?_, ?_, ?_⟩, rfl, rfl, by rw [List.length_append]; omega, ?_⟩
        · refine List.nodup_append.mpr ⟨wk2.nd, by simp, fun x hx y hy z => nr ?_⟩
          rw [List.mem_singleton.mp hy] at z
          rw [← z]
          exact hx
        · intro k hk
          rcases List.mem_append.mp hk with e | e
          · exact wk2.mem k e
          · rw [List.mem_singleton.mp e]
            exact ⟨⟨cj, hcj⟩, .inr rn⟩
        · intro k
          rw [kput_mem, List.mem_append, List.mem_singleton, wk2.key k]
          constructor
          · rintro (e | e)
            · exact .inr (Sum.inr.inj e)
            · exact .inl e
          · rintro (e | e)
            · exact .inr e
            · exact .inl (by rw [e])
        · rcases kput_keys (k := .inr j) (t := .str row[at_]) (kvs := kvs2) with ⟨h, _⟩ | ⟨_, e⟩
          · exact absurd h nk
          · have e2 := congrArg List.length e
            rw [List.length_map, List.length_append, List.length_map] at e2
            have := wk2.len
            rw [e2, List.length_append]
            exact Nat.succ_le_succ this
        · rw [List.getElem?_append_left (by omega)]
          exact h2
    · rintro s' M' ⟨row2, kvs2, o2, wk2, rfl, rfl, hl2, h2⟩
      refine ⟨m - 1, by omega, row2, kvs2, at_ + 1, o2, wk2, rfl, rfl, by omega, by omega⟩
  · exact nod (by omega) ⟨M, back row kvs, q⟩
/-- what is told so far -/
structure Mean (K : PySem.W.Frag) (L : Ln) (kvs : List (Key × T)) : Prop where
  val : ∀ k t, kget (.inr k) kvs = some t → ∃ m e, exp L m (.as k) = some e ∧ t = pcT K e
  nd : (kvs.map (·.1)).Nodup
  sub : ∀ j ∈ kvs.map (·.1), ∃ k c, j = .inr k ∧ lget k L = some c
def Full (L : Ln) (kvs : List (Key × T)) : Prop := ∀ k c, lget k L = some c → ∃ t, kget (.inr k) kvs = some t
theorem Mean.few {K : PySem.W.Frag} {L : Ln} {kvs : List (Key × T)} (h : Mean K L kvs) (hL : L.length ≤ 5) : kvs.length < 100000 := by
  have e := few_of (kvs.map (·.1)) (L.map fun p => (Sum.inr p.1 : Key)) h.nd fun j hj => by
    obtain ⟨k, c, rfl, hc⟩ := h.sub j hj
    exact List.mem_map.mpr ⟨(k, c), lget_mem hc, rfl⟩
  rw [List.length_map, List.length_map] at e
  omega
theorem Mean.put {K : PySem.W.Frag} {L : Ln} {kvs : List (Key × T)} (h : Mean K L kvs) {k : Str} {m : Nat} {e c : LC} (he : exp L m (.as k) = some e) (hc : lget k L = some c) : Mean K L (kput (.inr k) (pcT K e) kvs) := by
  refine ⟨fun j t hj => ?_, kput_nodup h.nd, fun j hj => ?_⟩
  · rw [kget_put] at hj
    by_cases z : (Sum.inr k : Key) = .inr j
    · rw [if_pos z] at hj
      cases hj
      exact ⟨m, e, by rw [← Sum.inr.inj z]; exact he, rfl⟩
    · rw [if_neg z] at hj
      exact h.val j t hj
  · rcases kput_mem.1 hj with z | z
    · exact ⟨k, c, z, hc⟩
    · exact h.sub j z
/-- how many lines stand below -/
def below (L : Ln) (r : Str → Nat) (k : Str) : Nat := (L.filter fun p => decide (r p.1 < r k)).length
theorem below_lt {L : Ln} {r : Str → Nat} {j k : Str} {c : LC} (h : r j < r k) (hj : lget j L = some c) : below L r j < below L r k := by
  unfold below
  have m := lget_mem hj
  clear hj
  induction L with
  | nil => cases m
  | cons p t ih =>
    have le : (t.filter fun p => decide (r p.1 < r j)).length ≤ (t.filter fun p => decide (r p.1 < r k)).length := by
      clear ih m
      induction t with
      | nil => exact Nat.le_refl _
      | cons q t ih =>
        rw [List.filter_cons, List.filter_cons]
        by_cases h1 : r q.1 < r j
        · rw [if_pos (decide_eq_true h1), if_pos (decide_eq_true (by omega))]
          exact Nat.succ_le_succ ih
        · rw [if_neg (by simpa using h1)]
          split
          · exact Nat.le_succ_of_le ih
          · exact ih
    rw [List.filter_cons, List.filter_cons]
    rcases List.mem_cons.mp m with e | e
    · have e1 : p.1 = j := by rw [← e]
      rw [if_neg (by rw [e1]; simp), if_pos (decide_eq_true (by rw [e1]; exact h))]
      exact Nat.lt_succ_of_le le
    · have ih := ih e
      by_cases h1 : r p.1 < r j
      · rw [if_pos (decide_eq_true h1), if_pos (decide_eq_true (by omega))]
        exact Nat.succ_lt_succ ih
      · rw [if_neg (by simpa using h1)]
        split
        · exact Nat.lt_succ_of_lt ih
        · exact ih
theorem below_len {L : Ln} {r : Str → Nat} {k : Str} {c : LC} (hk : lget k L = some c) : below L r k < L.length := by
  unfold below
  have m := lget_mem hk
  rcases Nat.lt_or_ge (L.filter fun p => decide (r p.1 < r k)).length L.length with h | h
  · exact h
  · have e := List.filter_eq_self.mp (List.Sublist.eq_of_length_le List.filter_sublist h) (k, c) m
    simp at e
def F_all_meanings (K : PySem.W.Frag) (L : Ln) : TSpec := fun ts M Q => ∃ a r, ts = [.adr a] ∧ M a = some (.dic .un (linesT K L)) ∧ LinesOk L r ∧ ∀ f kvs, M f = none → Mean K L kvs → Full L kvs → Q (.adr f) (mset M f (.dic .un kvs))
theorem kp_all_meanings (c : Fx K mg) {L : Ln} : Kp P w K mg base ("all_meanings", none) 60 1 (F_all_meanings K L) := by
  have k_names_in := names_in_all (P := P) (w := w) (base := base) c 40
  have k_meaning := meaning_all (P := P) (w := w) (base := base) c L 31
  refine kp_def (d := d_all_meanings) c M_all_meanings S_all_meanings rfl (fun FD => FD.bindsN fun _ _ _ _ _ _ us hl => match us, hl with | [_], _ => rfl) fun cdv A outer s H E hr => ⟨_, (
    (qss_cons (qs_set 1 S_all_meanings.nd qe_dicO)
      (qss_cons (qs_for PassesOwn.never rfl (qi_range1 (qa_cons (qe_callB ct_lenDx c.b_len (qa_cons (qv 0) qa_nil)) qa_nil) (by rfl) c.b_range) (qg_name 2 S_all_meanings.nd)
      (qss_one (qs_lock (qs_for PassesOwn.never rfl (qi_itemsx (qv 0)) (qg_tup rfl (qgs_cons (qg_name 3 S_all_meanings.nd) (qgs_cons (qg_name 4 S_all_meanings.nd) qgs_nil)))
      (qss_one (qs_if (QW.qt (qw_and (qt_dnotinx (Tr.Room.u1 hr) (qv 3) (qv 1)) (qw_and1 (qt_val (qe_callB (ct_all rfl) c.b_all (qa_cons (qe_lc1 5 rfl S_all_meanings.nd (qi_lst (qe_fn (k_names_in) (hr.mono (by omega)) c.g_names_in (qa_cons (qv 4) qa_nil))) (blkOk_by (by rfl)) (fun s H C cl fp => qts_nil) (fun s H C cl fp => (qe_dinx (Tr.Room.u1 hr) (qv 5) (qv 1)))) qa_nil))))))
      (qss_one (qs_dputx (Tr.Room.u1 hr) (qv 1) (qv 3) (qe_fn (k_meaning) (hr.mono (by omega)) c.g_meaning (qa_cons (qv 4) (qa_cons (qv 1) qa_nil)))))
      qss_nil))))))
      (qss_one (qs_ret (qv 1)))))), ?_⟩
  rintro ts M Q hl ⟨a, r, rfl, ha, ok, q⟩
  intro f hf
  have ne := ne_free ha hf
  have hlen := ok.few
  have lT : (linesT K L).length = L.length := List.length_map _
  refine ⟨a, linesT K L, rfl, (mset_ne ne).trans ha, ⟨by omega, by omega, ?_⟩⟩
  have hrl : (rngT 0 (((linesT K L).length : Nat) : Int).toNat).length = L.length := by rw [rngT_len, Int.toNat_natCast, lT]
  refine ⟨fun k s' M' => ∃ (kvs : List (Key × T)) (o p q' x : Option T), M' = mset M f (.dic .un kvs) ∧ Mean K L kvs ∧ (∀ nm c, lget nm L = some c → below L r nm < k → ∃ t, kget (.inr nm) kvs = some t) ∧ s' = [some (.adr a), some (.adr f), o, p, q', x],
    ⟨[], none, none, none, none, rfl, ⟨fun k t h => (by cases h), (by simp), fun j h => (by simp at h)⟩, fun nm c _ h => absurd h (Nat.not_lt_zero _), rfl⟩, fun _ _ _ _ => kT, ?_, ?_⟩
  · rintro k s' M' t et ⟨kvs, o, p, q', x, rfl, mean, done, rfl⟩
    refine ⟨a, linesT K L, (mset_ne ne).trans ha, fun ob vs => ⟨a, ob, vs, _, rfl, mset_same, ?_⟩⟩
    refine ⟨fun i s' M' => ∃ (kvs2 : List (Key × T)) (p q' x : Option T), M' = mset (mset M a (.dic (.lk ob vs) (linesT K L))) f (.dic .un kvs2) ∧ Mean K L kvs2 ∧ (∀ j u, kget j kvs = some u → ∃ u', kget j kvs2 = some u') ∧
      (∀ (i' : Nat) nm c, i' < i → L[i']? = some (nm, c) → below L r nm < k + 1 → ∃ u, kget (.inr nm) kvs2 = some u) ∧ s' = [some (.adr a), some (.adr f), some t, p, q', x], ⟨kvs, p, q', x, mset_comm ne.symm, mean, fun j u h => ⟨u, h⟩, fun i' nm c h => absurd h (Nat.not_lt_zero _), rfl⟩, ?_, ?_, ?_⟩
    · rintro i s' M' ⟨kvs2, p, q', x, rfl, _, _, _, _⟩
      exact (mset_ne ne).trans mset_same
    · rintro i s' M' t' et' ⟨kvs2, p, q', x, rfl, mean2, old, prev, rfl⟩
      obtain ⟨nm, cc, hm, rfl, hi⟩ := items_at et'
      have hg := lget_at ok.nd hm
      have low := ok.low nm cc hg
      obtain ⟨z, hz, hw⟩ := ok.full nm cc hg
      refine ⟨rfl, rfl, .un, kvs2, _, mset_same, rfl, ?_⟩
      -- the entry is there, or stays away, or comes
      cases hk2 : kget (.inr nm) kvs2 with
      | some u =>
        refine no rfl (no rfl ⟨kvs2, some (.str nm), some (pcT K cc), x, rfl, mean2, old, fun i' nm' c' hi' ei' hb => ?_, rfl⟩)
        by_cases e : i' = i
        · rw [e, hi] at ei'
          cases ei'
          exact ⟨u, hk2⟩
        · exact prev i' nm' c' (by omega) ei' hb
      | none =>
        refine yes rfl ⟨rfl, cl_of ⟨cc, rfl, by omega, by omega, ?_⟩⟩
        have ln := names_len cc
        refine lc_map (ts := strsT1 cc.names) (fun t => match t with | .str y => .bl (kget (.inr y) kvs2).isSome | _ => .non) kT (by rw [List.length_map]; omega) (fun t ht => ?_) ?_
        · obtain ⟨y, hy, rfl⟩ := List.mem_map.mp ht
          exact ⟨_, rfl, fun Q' q' => ⟨.un, kvs2, _, mset_same, rfl, q'⟩⟩
        refine ⟨cc.names.map fun y => (kget (.inr y) kvs2).isSome, by unfold strsT1; rw [List.map_map, List.map_map]; rfl, ?_⟩
        show ((cc.names.map fun y => (kget (.inr y) kvs2).isSome).all id = true → _) ∧ ((cc.names.map fun y => (kget (.inr y) kvs2).isSome).all id = false → _)
        cases hall : (cc.names.map fun y => (kget (.inr y) kvs2).isSome).all id with
        | false =>
          refine no rfl ⟨kvs2, some (.str nm), some (pcT K cc), x, rfl, mean2, old, fun i' nm' c' hi' ei' hb => ?_, rfl⟩
          by_cases e : i' = i
          · rw [e, hi] at ei'
            cases ei'
            exfalso
            have all : (cc.names.map fun y => (kget (.inr y) kvs2).isSome).all id = true := by
              rw [List.all_map]
              refine List.all_eq_true.mpr fun y hy => ?_
              obtain ⟨⟨cy, hcy⟩, ry⟩ := ok.rank nm cc hg y hy
              have b1 := below_lt (L := L) ry hcy
              obtain ⟨u, hu⟩ := done y cy hcy (by omega)
              obtain ⟨u', hu'⟩ := old _ u hu
              show (kget (.inr y) kvs2).isSome = true
              rw [hu']
              rfl
            rw [all] at hall
            cases hall
          · exact prev i' nm' c' (by omega) ei' hb
        | true =>
          have tell : Tells K L kvs2 cc.names := fun y hy => by
            rw [List.all_map] at hall
            have e := List.all_eq_true.mp hall y hy
            cases hy2 : kget (.inr y) kvs2 with
            | none =>
              have e : (kget (.inr y) kvs2).isSome = true := e
              rw [hy2] at e
              cases e
            | some u =>
              obtain ⟨m, e1, h1, rfl⟩ := mean2.val y u hy2
              exact ⟨m, e1, h1, rfl⟩
          have hz' : (lget nm L).bind (exp L 29) = some z := hz
          rw [hg] at hz'
          have hz' : exp L 29 cc = some z := hz'
          refine yes rfl ⟨rfl, cl_of ⟨cc, .adr f, .un, kvs2, z, rfl, mset_same, exp_le hz' (by omega), ok.ok nm cc hg, by omega, tell, f, kvs2, _, rfl, mset_same, rfl, mean2.few hlen, ?_⟩⟩
          rw [mset_set]
          refine ⟨_, some (.str nm), some (pcT K cc), x, rfl, mean2.put hz hg, fun j u h => ?_, fun i' nm' c' hi' ei' hb => ?_, rfl⟩
          · obtain ⟨u', hu'⟩ := old j u h
            rw [kget_put]
            by_cases z2 : (Sum.inr nm : Key) = j
            · exact ⟨_, if_pos z2⟩
            · exact ⟨u', by rw [if_neg z2]; exact hu'⟩
          · rw [kget_put]
            by_cases z2 : (Sum.inr nm : Key) = .inr nm'
            · exact ⟨_, if_pos z2⟩
            · rw [if_neg z2]
              by_cases e : i' = i
              · rw [e, hi] at ei'
                cases ei'
                exact absurd rfl z2
              · exact prev i' nm' c' (by omega) ei' hb
    · rintro s' M' ⟨kvs2, p, q', x, rfl, mean2, old, prev, rfl⟩
      refine ⟨(mset_ne ne).trans mset_same, kvs2, some t, p, q', x, ?_, mean2, fun nm c hg hb => ?_, rfl⟩
      · rw [mset_comm ne.symm, mset_set, mset_id ha]
      · obtain ⟨i', hi'⟩ := List.mem_iff_getElem?.mp (lget_mem hg)
        refine prev i' nm c ?_ hi' hb
        rw [itemsT_len]
        exact (List.getElem?_eq_some_iff.mp hi').1
  · rintro s' M' ⟨kvs, o, p, q', x, rfl, mean, done, rfl⟩
    rw [hrl] at done
    exact ⟨_, Msub.refl _, q f kvs hf mean fun k c hc => done k c hc (below_len hc)⟩
end
end Tr

set_option Elab.async false
set_option linter.all false
set_option maxRecDepth 100000
set_option maxHeartbeats 4000000
namespace Tr
open PySem PySem.Spec L2

/-! ### lines put, dropped -/
def lput (k : Str) (c : LC) (L : Ln) : Ln := if (L.any fun q => decide (q.1 = k)) = true then L.map (fun q => if q.1 = k then (q.1, c) else q) else L ++ [(k, c)]
def ldrop (k : Str) (L : Ln) : Ln := L.filter fun q => decide (q.1 ≠ k)
theorem lines_put {K : PySem.W.Frag} (k : Str) (c : LC) (L : Ln) : linesT K (lput k c L) = kput (.inr k) (pcT K c) (linesT K L) := by
  have e : ((linesT K L).any fun q => decide (q.1 = (Sum.inr k : Key))) = (L.any fun q => decide (q.1 = k)) := by
    unfold linesT
    rw [List.any_map]
    congr 1
    funext q
    show decide ((Sum.inr q.1 : Key) = .inr k) = decide (q.1 = k)
    by_cases h : q.1 = k
    · rw [decide_eq_true h, decide_eq_true (by rw [h])]
    · rw [decide_eq_false h, decide_eq_false fun z => h (Sum.inr.inj z)]
  unfold lput kput
  rw [e]
  split
  · unfold linesT
    rw [List.map_map, List.map_map]
    refine List.map_congr_left fun q _ => ?_
    show (Sum.inr (if q.1 = k then (q.1, c) else q).1, pcT K (if q.1 = k then (q.1, c) else q).2) = if (Sum.inr q.1 : Key) = .inr k then (Sum.inr q.1, pcT K c) else (Sum.inr q.1, pcT K q.2)
    by_cases h : q.1 = k
    · rw [if_pos h, if_pos (by rw [h])]
    · rw [if_neg h, if_neg fun z => h (Sum.inr.inj z)]
  · unfold linesT
    rw [List.map_append]
    rfl
theorem lines_drop {K : PySem.W.Frag} (k : Str) (L : Ln) : linesT K (ldrop k L) = kdrop (.inr k) (linesT K L) := by
  unfold ldrop kdrop linesT
  rw [List.filter_map]
  congr 1
  refine List.filter_congr fun q _ => ?_
  show decide (q.1 ≠ k) = decide ((Sum.inr q.1 : Key) ≠ .inr k)
  exact decide_eq_decide.mpr ⟨fun h z => h (Sum.inr.inj z), fun h z => h (by rw [z])⟩
theorem kget_drop {k j : Key} : ∀ {kvs : List (Key × T)}, kget j (kdrop k kvs) = if j = k then none else kget j kvs
  | [] => by
    show none = _
    split <;> rfl
  | (i, u) :: r => by
    have ih := kget_drop (k := k) (j := j) (kvs := r)
    unfold kdrop at ih ⊢
    rw [List.filter_cons]
    by_cases h : i = k
    · rw [if_neg (by simp [h]), ih]
      by_cases h2 : j = k
      · rw [if_pos h2, if_pos h2]
      · rw [if_neg h2, if_neg h2]
        show _ = if i = j then some u else kget j r
        rw [if_neg fun z => h2 (z.symm.trans h)]
    · rw [if_pos (by simp [h])]
      show (if i = j then some u else kget j _) = _
      rw [ih]
      show _ = if j = k then none else if i = j then some u else kget j r
      by_cases h2 : i = j
      · rw [if_pos h2, if_pos h2, if_neg fun z => h (h2.trans z)]
      · rw [if_neg h2, if_neg h2]
theorem kdrop_keys {k : Key} {kvs : List (Key × T)} : (kdrop k kvs).map (·.1) = (kvs.map (·.1)).filter fun j => decide (j ≠ k) := by
  unfold kdrop
  rw [List.filter_map]
  rfl
theorem lget_put {k j : Str} {c : LC} {L : Ln} : lget j (lput k c L) = if k = j then some c else lget j L := by
  have key : ∀ {a b : LC}, pcT (K := []) a = pcT (K := []) b → True := fun _ => trivial
  unfold lput
  by_cases h : (L.any fun q => decide (q.1 = k)) = true
  · rw [if_pos h]
    clear key
    induction L with
    | nil => simp at h
    | cons p r ih =>
      obtain ⟨i, u⟩ := p
      rw [List.map_cons]
      by_cases e : i = k
      · subst e
        rw [if_pos rfl]
        show (if i = j then some c else lget j (r.map fun q => if q.1 = i then (q.1, c) else q)) = if i = j then some c else (if i = j then some u else lget j r)
        by_cases e2 : i = j
        · rw [if_pos e2, if_pos e2]
        · rw [if_neg e2, if_neg e2, if_neg e2]
          by_cases h2 : (r.any fun q => decide (q.1 = i)) = true
          · rw [ih h2, if_neg e2]
          · have e3 : (r.map fun q => if q.1 = i then (q.1, c) else q) = r := by
              refine (List.map_congr_left fun q hq => ?_).trans (List.map_id _)
              rw [if_neg]
              · rfl
              · intro z
                exact h2 (List.any_eq_true.mpr ⟨q, hq, decide_eq_true z⟩)
            rw [e3]
      · rw [if_neg e]
        rw [List.any_cons, decide_eq_false e, Bool.false_or] at h
        show (if i = j then some u else lget j (r.map fun q => if q.1 = k then (q.1, c) else q)) = if k = j then some c else (if i = j then some u else lget j r)
        rw [ih h]
        by_cases e2 : i = j
        · subst e2
          rw [if_pos rfl, if_pos rfl, if_neg fun z => e z.symm]
        · rw [if_neg e2, if_neg e2]
  · rw [if_neg h]
    have nk : ∀ q ∈ L, q.1 ≠ k := fun q hq z => h (List.any_eq_true.mpr ⟨q, hq, decide_eq_true z⟩)
    clear h key
    induction L with
    | nil => rfl
    | cons p r ih =>
      obtain ⟨i, u⟩ := p
      show (if i = j then some u else lget j (r ++ [(k, c)])) = if k = j then some c else (if i = j then some u else lget j r)
      rw [ih fun q hq => nk q (List.mem_cons_of_mem _ hq)]
      by_cases e2 : i = j
      · rw [if_pos e2, if_pos e2, if_neg fun z => nk _ List.mem_cons_self (e2.trans z.symm)]
      · rw [if_neg e2, if_neg e2]
theorem lget_drop {k j : Str} : ∀ {L : Ln}, lget j (ldrop k L) = if j = k then none else lget j L
  | [] => by
    show none = _
    split <;> rfl
  | (i, u) :: r => by
    have ih := lget_drop (k := k) (j := j) (L := r)
    unfold ldrop at ih ⊢
    rw [List.filter_cons]
    by_cases h : i = k
    · rw [if_neg (by simp [h]), ih]
      by_cases h2 : j = k
      · rw [if_pos h2, if_pos h2]
      · rw [if_neg h2, if_neg h2]
        show _ = if i = j then some u else lget j r
        rw [if_neg fun z => h2 (z.symm.trans h)]
    · rw [if_pos (by simp [h])]
      show (if i = j then some u else lget j _) = _
      rw [ih]
      show _ = if j = k then none else if i = j then some u else lget j r
      by_cases h2 : i = j
      · rw [if_pos h2, if_pos h2, if_neg fun z => h (h2.trans z)]
      · rw [if_neg h2, if_neg h2]
/-- a line that none refers to is taken out -/
theorem exp_drop {L : Ln} {k : Str} (h : ∀ j c, lget j L = some c → k ∉ c.names) : ∀ {n : Nat} {c z : LC}, k ∉ c.names → exp L n c = some z → exp (ldrop k L) n c = some z
  | 0, _, _, _, e => by cases e
  | n + 1, .once s l, z, _, e => e
  | n + 1, .every d s l, z, _, e => e
  | n + 1, .as j, z, hk, e => by
    have e : (lget j L).bind (exp L n) = some z := e
    show (lget j (ldrop k L)).bind (exp (ldrop k L) n) = some z
    have jk : ¬ j = k := fun x => hk (by rw [x]; exact List.mem_cons_self)
    rw [lget_drop, if_neg jk]
    cases q : lget j L with
    | none => rw [q] at e; cases e
    | some c =>
      rw [q] at e
      exact exp_drop h (n := n) (h j c q) e
  | n + 1, .later c m, z, hk, e => by
    obtain ⟨x, e1, rfl⟩ := Option.map_eq_some_iff.mp (show (exp L n c).map (fun x => LC.later x m) = some z from e)
    show (exp (ldrop k L) n c).map (fun x => LC.later x m) = _
    rw [exp_drop h (c := c) hk e1]; rfl
  | n + 1, .noted c m, z, hk, e => by
    obtain ⟨x, e1, rfl⟩ := Option.map_eq_some_iff.mp (show (exp L n c).map (fun x => LC.noted x m) = some z from e)
    show (exp (ldrop k L) n c).map (fun x => LC.noted x m) = _
    rw [exp_drop h (c := c) hk e1]; rfl
  | n + 1, .less a b, z, hk, e => by
    obtain ⟨x, y, e1, e2, rfl⟩ := two_some (show two LC.less (exp L n a) (exp L n b) = some z from e)
    show two LC.less (exp (ldrop k L) n a) (exp (ldrop k L) n b) = _
    rw [exp_drop h (fun w => hk (List.mem_append_left _ w)) e1, exp_drop h (fun w => hk (List.mem_append_right _ w)) e2]; rfl
  | n + 1, .swap a d b, z, hk, e => by
    obtain ⟨x, y, e1, e2, rfl⟩ := two_some (show two (fun x y => LC.swap x d y) (exp L n a) (exp L n b) = some z from e)
    show two (fun x y => LC.swap x d y) (exp (ldrop k L) n a) (exp (ldrop k L) n b) = _
    rw [exp_drop h (fun w => hk (List.mem_append_left _ w)) e1, exp_drop h (fun w => hk (List.mem_append_right _ w)) e2]; rfl
  | n + 1, .join a b, z, hk, e => by
    obtain ⟨x, y, e1, e2, rfl⟩ := two_some (show two LC.join (exp L n a) (exp L n b) = some z from e)
    show two LC.join (exp (ldrop k L) n a) (exp (ldrop k L) n b) = _
    rw [exp_drop h (fun w => hk (List.mem_append_left _ w)) e1, exp_drop h (fun w => hk (List.mem_append_right _ w)) e2]; rfl
/-! ### the book -/
def bookF (l m g : Addr) : List (Str × T) := [fd "lines" (.adr l), fd "meanings" (.adr m), fd "changed" (.adr g)]
structure ChOk (L : Ln) (ch : List (Key × T)) : Prop where
  val : ∀ k c, lget k L = some c → kget (.inr k) ch = some (.dic [])
  nd : (ch.map (·.1)).Nodup
  sub : ∀ j ∈ ch.map (·.1), ∃ k c, j = .inr k ∧ lget k L = some c
theorem ChOk.few {L : Ln} {ch : List (Key × T)} (h : ChOk L ch) (hL : L.length ≤ 5) : ch.length < 100000 := by
  have e := few_of (ch.map (·.1)) (L.map fun p => (Sum.inr p.1 : Key)) h.nd fun j hj => by
    obtain ⟨k, c, rfl, hc⟩ := h.sub j hj
    exact List.mem_map.mpr ⟨(k, c), lget_mem hc, rfl⟩
  rw [List.length_map, List.length_map] at e
  omega
structure BookAt (K : PySem.W.Frag) (M : Mh) (b l m g : Addr) (L : Ln) : Prop where
  book : M b = some (.ins (He.ga K "Book") (bookF l m g))
  lines : M l = some (.dic .un (linesT K L))
  means : ∃ kvs, M m = some (.dic .un kvs) ∧ Mean K L kvs ∧ Full L kvs
  chs : ∃ ch, M g = some (.dic .un ch) ∧ ChOk L ch
  lm : l ≠ m
  lg : l ≠ g
  mg : m ≠ g
theorem BookAt.ne {K : PySem.W.Frag} {M : Mh} {b l m g : Addr} {L : Ln} (h : BookAt K M b l m g L) : b ≠ l ∧ b ≠ m ∧ b ≠ g := by
  refine ⟨fun z => ?_, fun z => ?_, fun z => ?_⟩
  · have e := h.book
    rw [z, h.lines] at e
    cases e
  · obtain ⟨kvs, e2, _⟩ := h.means
    have e := h.book
    rw [z, e2] at e
    cases e
  · obtain ⟨kvs, e2, _⟩ := h.chs
    have e := h.book
    rw [z, e2] at e
    cases e

section
variable {P : Program} {w : World} {K : PySem.W.Frag} {mg : Str → Option Value} {base : Heap}

def F_Book_init (K : PySem.W.Frag) : TSpec := fun ts M Q => ∃ b, ts = [.adr b] ∧ M b = some (.ins (He.ga K "Book") []) ∧ ∀ M' l m g, BookAt K M' b l m g [] → M l = none → M m = none → M g = none → (∀ x o, x ≠ b → M x = some o → M' x = some o) → Q .non M'
theorem kp_Book_init (c : Fx K mg) : Kp P w K mg base ("Book", some "__init__") 1 1 (F_Book_init K) := by
  refine kp_def (d := d_Book_init) c M_Book_init S_Book_init rfl (fun FD => FD.bindsN fun _ _ _ _ _ _ us hl => match us, hl with | [_], _ => rfl) fun cdv A outer s H E hr => ⟨_, (
    (qss_cons (qs_fldx (qv 0) qe_dicO)
      (qss_cons (qs_fldx (qv 0) qe_dicO)
      (qss_one (qs_fldx (qv 0) qe_dicO))))), ?_⟩
  rintro ts M Q hl ⟨b, rfl, hb, q⟩
  intro l hl1
  have bl := ne_free hb hl1
  refine ⟨b, _, _, rfl, (mset_ne bl).trans hb, c.c_Book, c.n_Book_lines, few rfl, fun m hm1 => ?_⟩
  have bm : b ≠ m := ne_free mset_same hm1
  have lm : l ≠ m := ne_free ((mset_ne (Ne.symm bl)).trans mset_same) hm1
  refine ⟨b, _, _, rfl, (mset_ne bm).trans mset_same, c.c_Book, c.n_Book_meanings, few rfl, fun g hg1 => ?_⟩
  have bg : b ≠ g := ne_free mset_same hg1
  have mg : m ≠ g := ne_free ((mset_ne (Ne.symm bm)).trans mset_same) hg1
  have lg : l ≠ g := ne_free ((mset_ne (Ne.symm bl)).trans ((mset_ne lm).trans ((mset_ne (Ne.symm bl)).trans mset_same))) hg1
  refine ⟨b, _, _, rfl, (mset_ne bg).trans mset_same, c.c_Book, c.n_Book_changed, few rfl, ?_⟩
  have e0 : ∀ x o, x ≠ b → x ≠ l → x ≠ m → x ≠ g → M x = some o → mset (mset (mset (mset (mset (mset M l (.dic .un [])) b (.ins (He.ga K "Book") (putT "lines" (.adr l) []))) m (.dic .un [])) b (.ins (He.ga K "Book") (putT "meanings" (.adr m) (putT "lines" (.adr l) [])))) g (.dic .un [])) b (.ins (He.ga K "Book") (putT "changed" (.adr g) (putT "meanings" (.adr m) (putT "lines" (.adr l) [])))) x = some o := fun x o h1 h2 h3 h4 e => by
    rw [mset_ne h1, mset_ne h4, mset_ne h1, mset_ne h3, mset_ne h1, mset_ne h2]
    exact e
  have nm : M m = none := by
    cases e : M m with
    | none => rfl
    | some o =>
      rw [mset_ne (Ne.symm bm), mset_ne (Ne.symm lm), e] at hm1
      cases hm1
  have ng : M g = none := by
    cases e : M g with
    | none => rfl
    | some o =>
      rw [mset_ne (Ne.symm bg), mset_ne (Ne.symm mg), mset_ne (Ne.symm bg), mset_ne (Ne.symm lg), e] at hg1
      cases hg1
  refine ⟨_, Msub.refl _, q _ l m g ⟨mset_same, ?_, ⟨[], ?_, ⟨fun k t h => (by cases h), (by simp), fun j h => (by simp at h)⟩, fun k c h => (by cases h)⟩, ⟨[], ?_, ⟨fun k c h => (by cases h), (by simp), fun j h => (by simp at h)⟩⟩, lm, lg, mg⟩ hl1 nm ng fun x o hx e => ?_⟩
  · rw [mset_ne (Ne.symm bl), mset_ne lg, mset_ne (Ne.symm bl), mset_ne lm, mset_ne (Ne.symm bl)]
    exact mset_same
  · rw [mset_ne (Ne.symm bm), mset_ne mg, mset_ne (Ne.symm bm)]
    exact mset_same
  · rw [mset_ne (Ne.symm bg)]
    exact mset_same
  · exact e0 x o hx (ne_free e hl1) (ne_free e nm) (ne_free e ng) e
def F_Book_names (K : PySem.W.Frag) : TSpec := fun ts M Q => ∃ b l m g L, ts = [.adr b] ∧ BookAt K M b l m g L ∧ L.length ≤ 5 ∧ ∀ ms : List Str, ms.Perm (L.map (·.1)) → Q (.lst (strsT1 ms)) M
theorem kp_Book_names (c : Fx K mg) : Kp P w K mg base ("Book", some "names") 1 1 (F_Book_names K) := by
  refine kp_def (d := d_Book_names) c M_Book_names S_Book_names rfl (fun FD => FD.bindsN fun _ _ _ _ _ _ us hl => match us, hl with | [_], _ => rfl) fun cdv A outer s H E hr => ⟨_, (
    (qss_one (qs_ret (qe_callB (ct_sortDx rfl) c.b_sorted (qa_cons (qe_fldk c (qv 0)) qa_nil))))), ?_⟩
  rintro ts M Q hl ⟨b, l, m, g, L, rfl, bk, h5, q⟩
  refine ⟨_, _, _, bk.book, c.c_Book, c.n_Book_lines, rfl, _, _, _, rfl, bk.lines, L.map (·.1), by unfold linesT; rw [List.map_map, List.map_map]; rfl, by rw [List.length_map]; omega, fun ms p _ => ?_⟩
  exact ⟨M, Msub.refl M, q ms p⟩
theorem mk_names (c : Fx K mg) : ∀ C, C = He.ga K "Book" → MethK P w K mg base C "names" 1 1 (F_Book_names K) := fun C e => by
  subst e
  exact methK c.c_Book c.m_Book_names (kp_Book_names c)
def F_Book_want_line (K : PySem.W.Frag) : TSpec := fun ts M Q => ∃ b l m g L nm cc, ts = [.adr b, .str nm] ∧ BookAt K M b l m g L ∧ lget nm L = some cc ∧ Q .non M
theorem kp_Book_want_line (c : Fx K mg) : Kp P w K mg base ("Book", some "want_line") 1 2 (F_Book_want_line K) := by
  refine kp_def (d := d_Book_want_line) c M_Book_want_line S_Book_want_line rfl (fun FD => FD.bindsN fun _ _ _ _ _ _ us hl => match us, hl with | [_, _], _ => rfl) fun cdv A outer s H E hr => ⟨_, (
    (qss_one (qs_if (QW.qt (qw_or (qt_not (qt_val (qe_callB (ct_isik c) c.b_isinstance (qa_cons (qv 1) (qa_cons (qe_bty c.b_str rfl) qa_nil))))) (qw_or1 (qt_dnotinx (Tr.Room.u1 hr) (qv 1) (qe_fldk c (qv 0))))))
      (qss_one qs_never)
      qss_nil))), ?_⟩
  rintro ts M Q hl ⟨b, l, m, g, L, nm, cc, rfl, bk, hg, q⟩
  refine ⟨_, _, rfl, nocls, kt_ss, no rfl ⟨_, _, _, bk.book, c.c_Book, c.n_Book_lines, rfl, .un, _, _, bk.lines, rfl, ?_⟩⟩
  rw [kget_lines, hg]
  exact no rfl ⟨M, Msub.refl M, q⟩
theorem mk_want_line (c : Fx K mg) : ∀ C, C = He.ga K "Book" → MethK P w K mg base C "want_line" 1 2 (F_Book_want_line K) := fun C e => by
  subst e
  exact methK c.c_Book c.m_Book_want_line (kp_Book_want_line c)
def F_Book_meant (K : PySem.W.Frag) : TSpec := fun ts M Q => ∃ b l m g L nm cc n z, ts = [.adr b, .str nm] ∧ BookAt K M b l m g L ∧ lget nm L = some cc ∧ exp L n (.as nm) = some z ∧ Q (pcT K z) M
theorem kp_Book_meant (c : Fx K mg) : Kp P w K mg base ("Book", some "meant") 2 2 (F_Book_meant K) := by
  have m_want_line := mk_want_line (P := P) (w := w) (base := base) c
  refine kp_def (d := d_Book_meant) c M_Book_meant S_Book_meant rfl (fun FD => FD.bindsN fun _ _ _ _ _ _ us hl => match us, hl with | [_, _], _ => rfl) fun cdv A outer s H E hr => ⟨_, (
    (qss_cons (qs_expr (qe_methx (fun C e => (m_want_line C e).ok (hr.mono (by omega))) (qv 0) (qa_cons (qv 1) qa_nil)))
      (qss_one (qs_ret (qe_dgetx (Tr.Room.u1 hr) (qe_fldk c (qv 0)) (qv 1)))))), ?_⟩
  rintro ts M Q hl ⟨b, l, m, g, L, nm, cc, n, z, rfl, bk, hg, hz, q⟩
  obtain ⟨kvs, hm, mean, full⟩ := bk.means
  obtain ⟨t, ht⟩ := full nm cc hg
  obtain ⟨j, e, he, rfl⟩ := mean.val nm t ht
  have ez := exp_det hz he
  subst ez
  exact ⟨_, _, bk.book, rfl, rfl, rfl, cl_of ⟨b, l, m, g, L, nm, cc, rfl, bk, hg, _, _, _, bk.book, c.c_Book, c.n_Book_meanings, rfl, .un, kvs, _, hm, rfl, _, ht, M, Msub.refl M, q⟩⟩
theorem mk_meant (c : Fx K mg) : ∀ C, C = He.ga K "Book" → MethK P w K mg base C "meant" 2 2 (F_Book_meant K) := fun C e => by
  subst e
  exact methK c.c_Book c.m_Book_meant (kp_Book_meant c)

theorem kp_Book_now (c : Fx K mg) : Kp P w K mg base ("Book", some "now") 2 2 (F_Book_meant K) := by
  have k_changed_card := kp_changed_card (P := P) (w := w) (base := base) c
  have m_want_line := mk_want_line (P := P) (w := w) (base := base) c
  refine kp_def (d := d_Book_now) c M_Book_now S_Book_now rfl (fun FD => FD.bindsN fun _ _ _ _ _ _ us hl => match us, hl with | [_, _], _ => rfl) fun cdv A outer s H E hr => ⟨_, (
    (qss_cons (qs_expr (qe_methx (fun C e => (m_want_line C e).ok (hr.mono (by omega))) (qv 0) (qa_cons (qv 1) qa_nil)))
      (qss_one (qs_ret (qe_fn (k_changed_card) (hr.mono (by omega)) c.g_changed_card (qa_cons (qe_dgetx (Tr.Room.u1 hr) (qe_fldk c (qv 0)) (qv 1)) (qa_cons (qe_dgetx (Tr.Room.u1 hr) (qe_fldk c (qv 0)) (qv 1)) qa_nil))))))), ?_⟩
  rintro ts M Q hl ⟨b, l, m, g, L, nm, cc, n, z, rfl, bk, hg, hz, q⟩
  obtain ⟨kvs, hm, mean, full⟩ := bk.means
  obtain ⟨ch, hc, cok⟩ := bk.chs
  obtain ⟨t, ht⟩ := full nm cc hg
  obtain ⟨j, e, he, rfl⟩ := mean.val nm t ht
  have ez := exp_det hz he
  subst ez
  refine ⟨_, _, bk.book, rfl, rfl, rfl, cl_of ⟨b, l, m, g, L, nm, cc, rfl, bk, hg, _, _, _, bk.book, c.c_Book, c.n_Book_meanings, rfl, .un, kvs, _, hm, rfl, _, ht, ?_⟩⟩
  exact ⟨_, _, _, bk.book, c.c_Book, c.n_Book_changed, rfl, .un, ch, _, hc, rfl, _, cok.val nm cc hg, rfl, cl_of ⟨z, rfl, fun M' _ => ⟨M, Msub.refl M, q⟩⟩⟩
theorem mk_now (c : Fx K mg) : ∀ C, C = He.ga K "Book" → MethK P w K mg base C "now" 2 2 (F_Book_meant K) := fun C e => by
  subst e
  exact methK c.c_Book c.m_Book_now (kp_Book_now c)
end
end Tr

set_option Elab.async false
set_option linter.all false
set_option maxRecDepth 100000
set_option maxHeartbeats 4000000
namespace Tr
open PySem PySem.Spec L2

theorem lput_len {k : Str} {c : LC} {L : Ln} : L.length ≤ (lput k c L).length := by
  unfold lput
  split
  · rw [List.length_map]; exact Nat.le_refl _
  · rw [List.length_append]; omega
theorem ChOk.put {L : Ln} {ch : List (Key × T)} (h : ChOk L ch) (k : Str) (c : LC) : ChOk (lput k c L) (kput (.inr k) (.dic []) ch) := by
  refine ⟨fun j d hj => ?_, kput_nodup h.nd, fun j hj => ?_⟩
  · rw [kget_put]
    rw [lget_put] at hj
    by_cases e : k = j
    · rw [if_pos (by rw [e])]
    · rw [if_neg e] at hj
      rw [if_neg fun z => e (Sum.inr.inj z)]
      exact h.val j d hj
  · rcases kput_mem.1 hj with e | e
    · exact ⟨k, c, e, by rw [lget_put, if_pos rfl]⟩
    · obtain ⟨i, d, e1, e2⟩ := h.sub j e
      by_cases z : k = i
      · exact ⟨i, c, e1, by rw [lget_put, if_pos z]⟩
      · exact ⟨i, d, e1, by rw [lget_put, if_neg z]; exact e2⟩
theorem ChOk.drop {L : Ln} {ch : List (Key × T)} (h : ChOk L ch) (k : Str) : ChOk (ldrop k L) (kdrop (.inr k) ch) := by
  refine ⟨fun j d hj => ?_, by rw [kdrop_keys]; exact h.nd.sublist List.filter_sublist, fun j hj => ?_⟩
  · rw [lget_drop] at hj
    by_cases e : j = k
    · rw [if_pos e] at hj; cases hj
    · rw [if_neg e] at hj
      rw [kget_drop, if_neg fun z => e (Sum.inr.inj z)]
      exact h.val j d hj
  · rw [kdrop_keys] at hj
    obtain ⟨h1, h2⟩ := List.mem_filter.mp hj
    obtain ⟨i, d, e1, e2⟩ := h.sub j h1
    refine ⟨i, d, e1, ?_⟩
    rw [lget_drop, if_neg]
    · exact e2
    · intro z
      rw [e1, z] at h2
      simp at h2
theorem Mean.drop {K : PySem.W.Frag} {L : Ln} {kvs : List (Key × T)} (h : Mean K L kvs) {k : Str} (un : ∀ j c, lget j L = some c → k ∉ c.names) : Mean K (ldrop k L) (kdrop (.inr k) kvs) := by
  refine ⟨fun j t hj => ?_, by rw [kdrop_keys]; exact h.nd.sublist List.filter_sublist, fun j hj => ?_⟩
  · rw [kget_drop] at hj
    by_cases e : (Sum.inr j : Key) = .inr k
    · rw [if_pos e] at hj; cases hj
    · rw [if_neg e] at hj
      obtain ⟨m, z, hz, et⟩ := h.val j t hj
      refine ⟨m, z, exp_drop un (fun w => ?_) hz, et⟩
      have w : k ∈ [j] := w
      exact e (by rw [List.mem_singleton.mp w])
  · rw [kdrop_keys] at hj
    obtain ⟨h1, h2⟩ := List.mem_filter.mp hj
    obtain ⟨i, d, e1, e2⟩ := h.sub j h1
    refine ⟨i, d, e1, ?_⟩
    rw [lget_drop, if_neg]
    · exact e2
    · intro z
      rw [e1, z] at h2
      simp at h2
theorem Full.drop {L : Ln} {kvs : List (Key × T)} (h : Full L kvs) (k : Str) : Full (ldrop k L) (kdrop (.inr k) kvs) := fun j c hj => by
  rw [lget_drop] at hj
  by_cases e : j = k
  · rw [if_pos e] at hj; cases hj
  · rw [if_neg e] at hj
    obtain ⟨t, ht⟩ := h j c hj
    exact ⟨t, by rw [kget_drop, if_neg fun z => e (Sum.inr.inj z)]; exact ht⟩

section
variable {P : Program} {w : World} {K : PySem.W.Frag} {mg : Str → Option Value} {base : Heap}

def F_Book_put (K : PySem.W.Frag) (L' : Ln) : TSpec := fun ts M Q => ∃ b l m g L nm cc r, ts = [.adr b, .str nm, pcT K cc] ∧ isW nm ∧ BookAt K M b l m g L ∧ L' = lput nm cc L ∧ LinesOk L' r ∧
  ∀ M' l' m', BookAt K M' b l' m' g L' → M l' = none → M m' = none → (∀ x o, x ≠ b → x ≠ g → M x = some o → M' x = some o) → Q .non M'
theorem kp_Book_put (c : Fx K mg) {L' : Ln} : Kp P w K mg base ("Book", some "put") 62 3 (F_Book_put K L') := by
  have k_is_name := kp_is_name (P := P) (w := w) (base := base) c
  have k_want_card := kp_want_card (P := P) (w := w) (base := base) c
  have k_names_in := names_in_all (P := P) (w := w) (base := base) c 40
  have k_chain_round := kp_chain_round (P := P) (w := w) (base := base) c (L := L')
  have k_most_meant := kp_most_meant (P := P) (w := w) (base := base) c (L := L')
  have k_all_meanings := kp_all_meanings (P := P) (w := w) (base := base) c (L := L')
  refine kp_def (d := d_Book_put) c M_Book_put S_Book_put rfl (fun FD => FD.bindsN fun _ _ _ _ _ _ us hl => match us, hl with | [_, _, _], _ => rfl) fun cdv A outer s H E hr => ⟨_, (
    (qss_cons (qs_if (qt_not (qt_val (qe_fn (k_is_name) (hr.mono (by omega)) c.g_is_name (qa_cons (qv 1) qa_nil))))
      (qss_one qs_never)
      qss_nil)
      (qss_cons (qs_expr (qe_fn (k_want_card) (hr.mono (by omega)) c.g_want_card (qa_cons (qv 2) qa_nil)))
      (qss_cons (qs_set 3 S_Book_put.nd (qe_callTy ct_dictDx c.b_dict (qa_cons (qe_fldk c (qv 0)) qa_nil)))
      (qss_cons (qs_dputx (Tr.Room.u1 hr) (qv 3) (qv 1) (qv 2))
      (qss_cons (qs_for PassesOwn.never rfl (qi_lst (qe_fn (k_names_in) (hr.mono (by omega)) c.g_names_in (qa_cons (qv 2) qa_nil))) (qg_name 4 S_Book_put.nd)
      (qss_one (qs_if (qt_dnotinx (Tr.Room.u1 hr) (qv 4) (qv 3))
      (qss_one qs_never)
      qss_nil)))
      (qss_cons (qs_set 5 S_Book_put.nd (qe_fn (k_chain_round) (hr.mono (by omega)) c.g_chain_round (qa_cons (qv 3) (qa_cons (qv 1) qa_nil))))
      (qss_cons (qs_if (qt_cmp ot_notN (qv 5) qe_non)
      (qss_one qs_never)
      qss_nil)
      (qss_cons (qs_if (qt_cmp ot_gt (qe_fn (k_most_meant) (hr.mono (by omega)) c.g_most_meant (qa_cons (qv 3) qa_nil)) (qe_gint c.i_MOST_MEANT))
      (qss_one qs_never)
      qss_nil)
      (qss_cons (qs_fldx (qv 0) (qv 3))
      (qss_cons (qs_fldx (qv 0) (qe_fn (k_all_meanings) (hr.mono (by omega)) c.g_all_meanings (qa_cons (qv 3) qa_nil)))
      (qss_one (qs_dputx (Tr.Room.u1 hr) (qe_fldk c (qv 0)) (qv 1) (qe_sealx qe_dicO)))))))))))))), ?_⟩
  rintro ts M Q hl ⟨b, l, m, g, L, nm, cc, r, rfl, hw, bk, eL, ok, q⟩
  obtain ⟨ch, hch, cok⟩ := bk.chs
  have h5 := ok.few
  have hLL : L.length ≤ L'.length := by rw [eL]; exact lput_len
  have hnm : lget nm L' = some cc := by rw [eL, lget_put, if_pos rfl]
  have low := ok.low nm cc hnm
  refine ⟨rfl, cl_of ⟨nm, rfl, hw, no rfl ⟨rfl, cl_of ⟨cc, rfl, _, _, _, bk.book, c.c_Book, c.n_Book_lines, rfl, _, _, _, rfl, bk.lines, fun l' hl' => ?_⟩⟩⟩⟩
  have bl' : b ≠ l' := ne_free bk.book hl'
  have gl' : g ≠ l' := ne_free hch hl'
  refine ⟨l', _, _, rfl, mset_same, rfl, by rw [show (linesT K L).length = L.length from List.length_map _]; omega, ?_⟩
  rw [mset_set, ← lines_put, ← eL]
  have hM2 : ∀ {x : Addr}, x ≠ l' → mset M l' (.dic .un (linesT K L')) x = M x := fun h => mset_ne h
  refine ⟨rfl, cl_of ⟨cc, rfl, by omega, by omega, ?_⟩⟩
  refine ⟨fun k s' M' => M' = mset M l' (.dic .un (linesT K L')) ∧ ∃ o, s' = [some (.adr b), some (.str nm), some (pcT K cc), some (.adr l'), o, none], ⟨rfl, none, rfl⟩, fun _ _ _ _ => kT, ?_, ?_⟩
  · rintro k s' M' t et ⟨rfl, o, rfl⟩
    obtain ⟨j, hj, rfl⟩ := List.mem_map.mp (List.mem_of_getElem? et)
    obtain ⟨⟨cj, hcj⟩, _⟩ := ok.rank nm cc hnm j hj
    refine ⟨.un, _, _, mset_same, rfl, ?_⟩
    rw [kget_lines, hcj]
    exact no rfl ⟨rfl, some (.str j), rfl⟩
  rintro s' M' ⟨rfl, o, rfl⟩
  refine ⟨rfl, cl_of ⟨l', r, nm, cc, rfl, mset_same, ok, hnm, no rfl ?_⟩⟩
  refine ⟨rfl, cl_of ⟨l', r, rfl, mset_same, ok, (fun z => by rw [z] at hnm; cases hnm), fun mm hmm => nod (by omega) ?_⟩⟩
  refine ⟨b, _, _, rfl, (mset_ne bl').trans bk.book, c.c_Book, c.n_Book_lines, few rfl, ?_⟩
  refine ⟨rfl, cl_of ⟨l', r, rfl, (mset_ne (Ne.symm bl')).trans mset_same, ok, fun m' kvs hm' mean full => ?_⟩⟩
  have bm' : b ≠ m' := ne_free mset_same hm'
  have lm' : l' ≠ m' := ne_free ((mset_ne (Ne.symm bl')).trans mset_same) hm'
  have gm' : g ≠ m' := ne_free ((mset_ne (Ne.symm bk.ne.2.2)).trans ((mset_ne gl').trans hch)) hm'
  refine ⟨b, _, _, rfl, (mset_ne bm').trans mset_same, c.c_Book, c.n_Book_meanings, few rfl, fun e he => ⟨e, _, rfl, mset_same, trivial, ?_⟩⟩
  rw [mdel_set he]
  have bg := bk.ne.2.2
  refine ⟨_, _, _, mset_same, c.c_Book, c.n_Book_changed, rfl, g, ch, _, rfl, ?_, rfl, cok.few (by omega), ?_⟩
  · rw [mset_ne (Ne.symm bg), mset_ne gm', mset_ne (Ne.symm bg), mset_ne gl']
    exact hch
  have nm' : M m' = none := by
    cases e : M m' with
    | none => rfl
    | some o =>
      rw [mset_ne (Ne.symm bm'), mset_ne (Ne.symm lm'), e] at hm'
      cases hm'
  refine ⟨_, Msub.refl _, q _ l' m' ⟨?_, ?_, ⟨kvs, ?_, mean, full⟩, ⟨_, mset_same, by rw [eL]; exact cok.put nm cc⟩, lm', (Ne.symm gl'), (Ne.symm gm')⟩ hl' nm' fun x o h1 h2 e => ?_⟩
  · rw [mset_ne bg]
    exact mset_same
  · rw [mset_ne (Ne.symm gl'), mset_ne (Ne.symm bl'), mset_ne lm', mset_ne (Ne.symm bl')]
    exact mset_same
  · rw [mset_ne (Ne.symm gm'), mset_ne (Ne.symm bm')]
    exact mset_same
  · have e1 : x ≠ l' := ne_free e hl'
    have e2 : x ≠ m' := ne_free e nm'
    rw [mset_ne h2, mset_ne h1, mset_ne e2, mset_ne h1, mset_ne e1]
    exact e
theorem kp_Book_putx (c : Fx K mg)  : Kp P w K mg base ("Book", some "put") 62 3 (fun ts M Q => ∃ L' : Ln, (F_Book_put K L') ts M Q) := by
  refine kp_defx (d := d_Book_put) c M_Book_put S_Book_put rfl (fun FD => FD.bindsN fun _ _ _ _ _ _ us hl => match us, hl with | [_, _, _], _ => rfl) fun L' => ?_
  have k_is_name := kp_is_name (P := P) (w := w) (base := base) c
  have k_want_card := kp_want_card (P := P) (w := w) (base := base) c
  have k_names_in := names_in_all (P := P) (w := w) (base := base) c 40
  have k_chain_round := kp_chain_round (P := P) (w := w) (base := base) c (L := L')
  have k_most_meant := kp_most_meant (P := P) (w := w) (base := base) c (L := L')
  have k_all_meanings := kp_all_meanings (P := P) (w := w) (base := base) c (L := L')
  refine fun cdv A outer s H E hr => ⟨_, (
    (qss_cons (qs_if (qt_not (qt_val (qe_fn (k_is_name) (hr.mono (by omega)) c.g_is_name (qa_cons (qv 1) qa_nil))))
      (qss_one qs_never)
      qss_nil)
      (qss_cons (qs_expr (qe_fn (k_want_card) (hr.mono (by omega)) c.g_want_card (qa_cons (qv 2) qa_nil)))
      (qss_cons (qs_set 3 S_Book_put.nd (qe_callTy ct_dictDx c.b_dict (qa_cons (qe_fldk c (qv 0)) qa_nil)))
      (qss_cons (qs_dputx (Tr.Room.u1 hr) (qv 3) (qv 1) (qv 2))
      (qss_cons (qs_for PassesOwn.never rfl (qi_lst (qe_fn (k_names_in) (hr.mono (by omega)) c.g_names_in (qa_cons (qv 2) qa_nil))) (qg_name 4 S_Book_put.nd)
      (qss_one (qs_if (qt_dnotinx (Tr.Room.u1 hr) (qv 4) (qv 3))
      (qss_one qs_never)
      qss_nil)))
      (qss_cons (qs_set 5 S_Book_put.nd (qe_fn (k_chain_round) (hr.mono (by omega)) c.g_chain_round (qa_cons (qv 3) (qa_cons (qv 1) qa_nil))))
      (qss_cons (qs_if (qt_cmp ot_notN (qv 5) qe_non)
      (qss_one qs_never)
      qss_nil)
      (qss_cons (qs_if (qt_cmp ot_gt (qe_fn (k_most_meant) (hr.mono (by omega)) c.g_most_meant (qa_cons (qv 3) qa_nil)) (qe_gint c.i_MOST_MEANT))
      (qss_one qs_never)
      qss_nil)
      (qss_cons (qs_fldx (qv 0) (qv 3))
      (qss_cons (qs_fldx (qv 0) (qe_fn (k_all_meanings) (hr.mono (by omega)) c.g_all_meanings (qa_cons (qv 3) qa_nil)))
      (qss_one (qs_dputx (Tr.Room.u1 hr) (qe_fldk c (qv 0)) (qv 1) (qe_sealx qe_dicO)))))))))))))), ?_⟩
  rintro ts M Q hl ⟨b, l, m, g, L, nm, cc, r, rfl, hw, bk, eL, ok, q⟩
  obtain ⟨ch, hch, cok⟩ := bk.chs
  have h5 := ok.few
  have hLL : L.length ≤ L'.length := by rw [eL]; exact lput_len
  have hnm : lget nm L' = some cc := by rw [eL, lget_put, if_pos rfl]
  have low := ok.low nm cc hnm
  refine ⟨rfl, cl_of ⟨nm, rfl, hw, no rfl ⟨rfl, cl_of ⟨cc, rfl, _, _, _, bk.book, c.c_Book, c.n_Book_lines, rfl, _, _, _, rfl, bk.lines, fun l' hl' => ?_⟩⟩⟩⟩
  have bl' : b ≠ l' := ne_free bk.book hl'
  have gl' : g ≠ l' := ne_free hch hl'
  refine ⟨l', _, _, rfl, mset_same, rfl, by rw [show (linesT K L).length = L.length from List.length_map _]; omega, ?_⟩
  rw [mset_set, ← lines_put, ← eL]
  have hM2 : ∀ {x : Addr}, x ≠ l' → mset M l' (.dic .un (linesT K L')) x = M x := fun h => mset_ne h
  refine ⟨rfl, cl_of ⟨cc, rfl, by omega, by omega, ?_⟩⟩
  refine ⟨fun k s' M' => M' = mset M l' (.dic .un (linesT K L')) ∧ ∃ o, s' = [some (.adr b), some (.str nm), some (pcT K cc), some (.adr l'), o, none], ⟨rfl, none, rfl⟩, fun _ _ _ _ => kT, ?_, ?_⟩
  · rintro k s' M' t et ⟨rfl, o, rfl⟩
    obtain ⟨j, hj, rfl⟩ := List.mem_map.mp (List.mem_of_getElem? et)
    obtain ⟨⟨cj, hcj⟩, _⟩ := ok.rank nm cc hnm j hj
    refine ⟨.un, _, _, mset_same, rfl, ?_⟩
    rw [kget_lines, hcj]
    exact no rfl ⟨rfl, some (.str j), rfl⟩
  rintro s' M' ⟨rfl, o, rfl⟩
  refine ⟨rfl, cl_of ⟨l', r, nm, cc, rfl, mset_same, ok, hnm, no rfl ?_⟩⟩
  refine ⟨rfl, cl_of ⟨l', r, rfl, mset_same, ok, (fun z => by rw [z] at hnm; cases hnm), fun mm hmm => nod (by omega) ?_⟩⟩
  refine ⟨b, _, _, rfl, (mset_ne bl').trans bk.book, c.c_Book, c.n_Book_lines, few rfl, ?_⟩
  refine ⟨rfl, cl_of ⟨l', r, rfl, (mset_ne (Ne.symm bl')).trans mset_same, ok, fun m' kvs hm' mean full => ?_⟩⟩
  have bm' : b ≠ m' := ne_free mset_same hm'
  have lm' : l' ≠ m' := ne_free ((mset_ne (Ne.symm bl')).trans mset_same) hm'
  have gm' : g ≠ m' := ne_free ((mset_ne (Ne.symm bk.ne.2.2)).trans ((mset_ne gl').trans hch)) hm'
  refine ⟨b, _, _, rfl, (mset_ne bm').trans mset_same, c.c_Book, c.n_Book_meanings, few rfl, fun e he => ⟨e, _, rfl, mset_same, trivial, ?_⟩⟩
  rw [mdel_set he]
  have bg := bk.ne.2.2
  refine ⟨_, _, _, mset_same, c.c_Book, c.n_Book_changed, rfl, g, ch, _, rfl, ?_, rfl, cok.few (by omega), ?_⟩
  · rw [mset_ne (Ne.symm bg), mset_ne gm', mset_ne (Ne.symm bg), mset_ne gl']
    exact hch
  have nm' : M m' = none := by
    cases e : M m' with
    | none => rfl
    | some o =>
      rw [mset_ne (Ne.symm bm'), mset_ne (Ne.symm lm'), e] at hm'
      cases hm'
  refine ⟨_, Msub.refl _, q _ l' m' ⟨?_, ?_, ⟨kvs, ?_, mean, full⟩, ⟨_, mset_same, by rw [eL]; exact cok.put nm cc⟩, lm', (Ne.symm gl'), (Ne.symm gm')⟩ hl' nm' fun x o h1 h2 e => ?_⟩
  · rw [mset_ne bg]
    exact mset_same
  · rw [mset_ne (Ne.symm gl'), mset_ne (Ne.symm bl'), mset_ne lm', mset_ne (Ne.symm bl')]
    exact mset_same
  · rw [mset_ne (Ne.symm gm'), mset_ne (Ne.symm bm')]
    exact mset_same
  · have e1 : x ≠ l' := ne_free e hl'
    have e2 : x ≠ m' := ne_free e nm'
    rw [mset_ne h2, mset_ne h1, mset_ne e2, mset_ne h1, mset_ne e1]
    exact e
theorem mk_put (c : Fx K mg) : ∀ C, C = He.ga K "Book" → MethK P w K mg base C "put" 62 3 (F_Book_put K L') := fun C e => by
  subst e
  exact methK c.c_Book c.m_Book_put (kp_Book_put c)
def F_Book_take_out (K : PySem.W.Frag) : TSpec := fun ts M Q => ∃ b l m g L nm cc, ts = [.adr b, .str nm] ∧ BookAt K M b l m g L ∧ lget nm L = some cc ∧ L.length ≤ 5 ∧ (∀ k c, lget k L = some c → c.ht < 3 ∧ c.wt ≤ 7) ∧ (∀ k c, lget k L = some c → nm ∉ c.names) ∧
  ∀ M', BookAt K M' b l m g (ldrop nm L) → (∀ x o, x ≠ l → x ≠ m → x ≠ g → M x = some o → M' x = some o) → Q .non M'
theorem kp_Book_take_out (c : Fx K mg) : Kp P w K mg base ("Book", some "take_out") 62 2 (F_Book_take_out K) := by
  have m_names := mk_names (P := P) (w := w) (base := base) c
  have m_want_line := mk_want_line (P := P) (w := w) (base := base) c
  have k_names_in := names_in_all (P := P) (w := w) (base := base) c 40
  refine kp_def (d := d_Book_take_out) c M_Book_take_out S_Book_take_out rfl (fun FD => FD.bindsN fun _ _ _ _ _ _ us hl => match us, hl with | [_, _], _ => rfl) fun cdv A outer s H E hr => ⟨_, (
    (qss_cons (qs_expr (qe_methx (fun C e => (m_want_line C e).ok (hr.mono (by omega))) (qv 0) (qa_cons (qv 1) qa_nil)))
      (qss_cons (qs_for PassesOwn.never rfl (qi_lst (qe_meth0x (fun C e => (m_names C e).ok (hr.mono (by omega))) (qv 0))) (qg_name 2 S_Book_take_out.nd)
      (qss_one (qs_if (qt_cmp ot_in (qv 1) (qe_fn (k_names_in) (hr.mono (by omega)) c.g_names_in (qa_cons (qe_dgetx (Tr.Room.u1 hr) (qe_fldk c (qv 0)) (qv 2)) qa_nil)))
      (qss_one qs_never)
      qss_nil)))
      (qss_cons (qs_expr (qe_dpop (qe_fldk c (qv 0)) (qv 1)))
      (qss_cons (qs_expr (qe_dpop (qe_fldk c (qv 0)) (qv 1)))
      (qss_one (qs_expr (qe_dpop (qe_fldk c (qv 0)) (qv 1))))))))), ?_⟩
  rintro ts M Q hl ⟨b, l, m, g, L, nm, cc, rfl, bk, hnm, h5, low, un, q⟩
  obtain ⟨kvs, hm, mean, full⟩ := bk.means
  obtain ⟨ch, hch, cok⟩ := bk.chs
  obtain ⟨bl, bm, bg⟩ := bk.ne
  refine ⟨_, _, bk.book, rfl, rfl, rfl, cl_of ⟨b, l, m, g, L, nm, cc, rfl, bk, hnm, ?_⟩⟩
  refine ⟨_, _, bk.book, rfl, rfl, rfl, cl_of ⟨b, l, m, g, L, rfl, bk, h5, fun ms p => ?_⟩⟩
  refine ⟨fun k s' M' => M' = M ∧ ∃ o, s' = [some (.adr b), some (.str nm), o], ⟨rfl, none, rfl⟩, fun _ _ _ _ => kT, ?_, ?_⟩
  · rintro k s' M' t et ⟨rfl, o, rfl⟩
    obtain ⟨j, hj, rfl⟩ := List.mem_map.mp (List.mem_of_getElem? et)
    obtain ⟨cj, hcj⟩ := lget_some (p.mem_iff.mp hj)
    have lw := low j cj hcj
    refine ⟨_, _, _, bk.book, c.c_Book, c.n_Book_lines, rfl, .un, _, _, bk.lines, rfl, _, (kget_lines j L).trans (by rw [hcj]; rfl), rfl, cl_of ⟨cj, rfl, by omega, by omega, flatS _, ?_⟩⟩
    show (inS nm (strsT1 cj.names) = true → _) ∧ (inS nm (strsT1 cj.names) = false → _)
    rw [inS_map]
    exact nod (un j cj hcj) ⟨rfl, some (.str j), rfl⟩
  rintro s' M' ⟨rfl, o, rfl⟩
  obtain ⟨tm, htm⟩ := full nm cc hnm
  refine ⟨_, _, _, bk.book, c.c_Book, c.n_Book_lines, rfl, ⟨_, bk.lines, _, _, rfl⟩, _, _, bk.lines, (kget_lines nm L).trans (by rw [hnm]; rfl), ?_⟩
  rw [← lines_drop]
  refine ⟨_, _, _, (mset_ne bl).trans bk.book, c.c_Book, c.n_Book_meanings, rfl, ⟨_, (mset_ne (Ne.symm bk.lm)).trans hm, _, _, rfl⟩, _, _, (mset_ne (Ne.symm bk.lm)).trans hm, htm, ?_⟩
  refine ⟨_, _, _, (mset_ne bm).trans ((mset_ne bl).trans bk.book), c.c_Book, c.n_Book_changed, rfl, ⟨_, (mset_ne (Ne.symm bk.mg)).trans ((mset_ne (Ne.symm bk.lg)).trans hch), _, _, rfl⟩, _, _, (mset_ne (Ne.symm bk.mg)).trans ((mset_ne (Ne.symm bk.lg)).trans hch), cok.val nm cc hnm, ?_⟩
  refine ⟨_, Msub.refl _, q _ ⟨?_, ?_, ⟨_, ?_, mean.drop un, full.drop nm⟩, ⟨_, mset_same, cok.drop nm⟩, bk.lm, bk.lg, bk.mg⟩ fun x o h1 h2 h3 e => ?_⟩
  · rw [mset_ne bg, mset_ne bm, mset_ne bl]
    exact bk.book
  · rw [mset_ne bk.lg, mset_ne bk.lm]
    exact mset_same
  · rw [mset_ne bk.mg]
    exact mset_same
  · rw [mset_ne h3, mset_ne h2, mset_ne h1]
    exact e
theorem mk_take_out (c : Fx K mg) : ∀ C, C = He.ga K "Book" → MethK P w K mg base C "take_out" 62 2 (F_Book_take_out K) := fun C e => by
  subst e
  exact methK c.c_Book c.m_Book_take_out (kp_Book_take_out c)
end
end Tr

set_option Elab.async false
set_option linter.all false
set_option maxRecDepth 100000
set_option maxHeartbeats 4000000
namespace Tr
open PySem PySem.Spec L2

/-! ### pots -/
structure PotAt (M : Mh) (p : Addr) : Prop where
  ex : ∃ a b n : Int, M p = some (.lst [.int a, .int b, .int n]) ∧ 0 ≤ a ∧ 0 ≤ b ∧ b < 2147483629 ∧ 0 ≤ n
def Oth (p : Addr) (M M' : Mh) : Prop := ∀ x, x ≠ p → M' x = M x
theorem Oth.refl (p : Addr) (M : Mh) : Oth p M M := fun _ _ => rfl
theorem Oth.trans {p : Addr} {M M1 M2 : Mh} (h : Oth p M M1) (g : Oth p M1 M2) : Oth p M M2 := fun x hx => (g x hx).trans (h x hx)
theorem Oth.set {p : Addr} {M : Mh} {o : OO} : Oth p M (mset M p o) := fun _ hx => mset_ne hx

section
variable {P : Program} {w : World} {K : PySem.W.Frag} {mg : Str → Option Value} {base : Heap}

def F_L_pot : TSpec := fun ts M Q => ∃ (ns : List Int) (k : Int), ts = [.lst (intsT ns), .int k] ∧ 0 ≤ k ∧ k ≤ 100 ∧ ∀ p M', M p = none → PotAt M' p → Oth p M M' → Q (.adr p) M'
theorem kp_L_pot (c : Fx K mg) : Kp P w K mg base ("_law_pot", none) 1 2 (F_L_pot) := by
  refine kp_def (d := d_L_pot) c M_L_pot S_L_pot rfl (fun FD => FD.bindsN fun _ _ _ _ _ _ us hl => match us, hl with | [_, _], _ => rfl) fun cdv A outer s H E hr => ⟨_, (
    (qss_cons (qs_set 2 S_L_pot.nd (qe_ifExp (qt_cmp ot_lt (qv 1) (qe_callB ct_len c.b_len (qa_cons (qv 0) qa_nil))) (qe_ix it_seqx (qv 0) (qv 1)) qe_int))
      (qss_one (qs_ret (qe_lstO (qa_cons (qe_callB (ct_max2 rfl) c.b_max (qa_cons qe_int (qa_cons (qe_op ot_sub (qv 2) (qe_op ot_pow qe_int qe_int)) qa_nil))) (qa_cons (qe_op ot_mod (qe_op ot_pow (qe_op ot_add (qe_op ot_mul (qe_op ot_mod (qv 2) qe_int) qe_int) (qe_op ot_mul qe_int (qe_op ot_add (qv 1) qe_int))) qe_int) qe_int) (qa_cons qe_int qa_nil)))))))), ?_⟩
  rintro ts M Q hl ⟨ns, k, rfl, h0, h1, q⟩
  have m0 : ∀ cell : Int, 0 ≤ cell % 2147483629 ∧ cell % 2147483629 < 2147483629 := fun cell => ⟨Int.emod_nonneg _ (by decide), Int.emod_lt_of_pos _ (by decide)⟩
  have m1 : ∀ cell : Int, ((cell % 2147483629 * 69621 + 40503 * (k + 1)).natAbs < 2 ^ 64) := fun cell => by
    have := m0 cell
    omega
  have m2 : ∀ x : Int, 0 ≤ x % 2147483563 ∧ x % 2147483563 < 2147483563 := fun cell => ⟨Int.emod_nonneg _ (by decide), Int.emod_lt_of_pos _ (by decide)⟩
  have m3 : ∀ x : Int, 0 ≤ (if x > 0 then x else 0) := fun x => by split <;> omega
  have z1 : (0 : Int) < 2147483629 := by decide
  have z2 : (0 : Int) < 2147483563 := by decide
  have m4 : ∀ x : Int, x % 2147483563 < 2147483629 := fun x => by have := (m2 x).2; omega
  by_cases hk : k < ((intsT ns).length : Nat)
  · have hk2 : k.toNat < ns.length := by rw [List.length_map] at hk; omega
    refine yesd hk ⟨_, _, .int ns[k.toNat], .inl rfl, rfl, ?_, ?_⟩
    · unfold tget
      rw [if_pos h0, List.getElem?_map, List.getElem?_eq_getElem hk2]
      rfl
    refine ⟨⟨by decide, by decide, by decide⟩, trivial, z1, .inr (by decide), .inl (by decide), ⟨by decide, by decide, m1 _⟩, z2, Nat.le_of_ble_eq_true rfl, fun p hp => ?_⟩
    exact ⟨_, Msub.refl _, q p _ hp ⟨_, _, _, mset_same, m3 _, (m2 _).1, m4 _, by decide⟩ Oth.set⟩
  · refine nod hk ?_
    refine ⟨⟨by decide, by decide, by decide⟩, trivial, z1, .inr (by decide), .inl (by decide), ⟨by decide, by decide, m1 0⟩, z2, Nat.le_of_ble_eq_true rfl, fun p hp => ?_⟩
    exact ⟨_, Msub.refl _, q p _ hp ⟨_, _, _, mset_same, m3 _, (m2 _).1, m4 _, by decide⟩ Oth.set⟩
def F_L_take : TSpec := fun ts M Q => ∃ p n, ts = [.adr p, .int n] ∧ PotAt M p ∧ 0 < n ∧ n < 1073741824 ∧ ∀ d M', 0 ≤ d → d < n → PotAt M' p → Oth p M M' → Q (.int d) M'
theorem kp_L_take (c : Fx K mg) : Kp P w K mg base ("_law_take", none) 1 2 (F_L_take) := by
  refine kp_def (d := d_L_take) c M_L_take S_L_take rfl (fun FD => FD.bindsN fun _ _ _ _ _ _ us hl => match us, hl with | [_, _], _ => rfl) fun cdv A outer s H E hr => ⟨_, (
    (qss_cons (qs_if (qt_cmp ot_gt (qe_ix it_seqx (qv 0) qe_int) qe_int)
      (qss_cons (qs_asg (qe_callB ct_divmod c.b_divmod (qa_cons (qe_ix it_seqx (qv 0) qe_int) (qa_cons (qv 1) qa_nil))) (qg_tup rfl (qgs_cons (qg_subx (qv 0) qe_int) (qgs_cons (qg_name 2 S_L_take.nd) qgs_nil))))
      (qss_one (qs_ret (qv 2))))
      qss_nil)
      (qss_cons (qs_asg (qe_op ot_add (qe_ix it_seqx (qv 0) qe_int) qe_int) (qg_subx (qv 0) qe_int))
      (qss_cons (qs_asg (qe_op ot_mod (qe_op ot_add (qe_op ot_mul (qe_ix it_seqx (qv 0) qe_int) qe_int) (qe_op ot_mul qe_int (qe_ix it_seqx (qv 0) qe_int))) qe_int) (qg_subx (qv 0) qe_int))
      (qss_one (qs_ret (qe_op ot_mod (qe_op ot_fdiv (qe_op ot_mod (qe_op ot_mul (qe_ix it_seqx (qv 0) qe_int) (qe_ix it_seqx (qv 0) qe_int)) qe_int) qe_int) (qv 1)))))))), ?_⟩
  rintro ts M Q hl ⟨p, n, rfl, ⟨a, b, i, hp, ha, hb, hb2, hi⟩, h0, h1, q⟩
  refine ⟨_, _, _, .inl hp, rfl, rfl, ?_⟩
  by_cases z : 0 < a
  · refine yesd z ⟨_, _, _, .inl hp, rfl, rfl, ⟨h0, h1⟩, rfl, ⟨p, _, _, rfl, hp, rfl, by decide, by show (0 : Nat) < 3; decide, ?_⟩⟩
    refine ⟨rfl, ?_⟩
    exact ⟨_, Msub.refl _, q _ _ (Int.emod_nonneg _ (by omega)) (Int.emod_lt_of_pos _ h0) ⟨_, _, _, mset_same, Int.ediv_nonneg ha (by omega), hb, hb2, hi⟩ Oth.set⟩
  · refine nod z ⟨_, _, _, .inl hp, rfl, rfl, ⟨p, _, _, rfl, hp, rfl, by decide, by show (2 : Nat) < 3; decide, ?_⟩⟩
    have z1 : (0 : Int) < 2147483629 := by decide
    have z3 : (0 : Int) < 2147483587 := by decide
    have c0 : 0 ≤ (b * 48271 + 11213 * (i + 1)) % 2147483629 := Int.emod_nonneg _ (by decide)
    have c1 : (b * 48271 + 11213 * (i + 1)) % 2147483629 < 2147483629 := Int.emod_lt_of_pos _ (by decide)
    have c2 : -(2 ^ 64) < (b * 48271 + 11213 * (i + 1)) % 2147483629 := by omega
    have c3 : (b * 48271 + 11213 * (i + 1)) % 2147483629 < 2 ^ 64 := by omega
    have c4 : 0 ≤ i + 1 := by omega
    refine ⟨_, _, _, .inl mset_same, rfl, rfl, .inr (by decide), _, _, _, .inl mset_same, rfl, rfl, .inl (by decide), z1, ⟨p, _, _, rfl, mset_same, rfl, by decide, by show (1 : Nat) < 3; decide, ?_⟩⟩
    refine ⟨_, _, _, .inl mset_same, rfl, rfl, _, _, _, .inl mset_same, rfl, rfl, .inl ⟨c2, c3⟩, z3, ⟨by decide, by decide⟩, h0, ?_⟩
    rw [mset_set]
    exact ⟨_, Msub.refl _, q _ _ (Int.emod_nonneg _ (by omega)) (Int.emod_lt_of_pos _ h0) ⟨_, _, _, mset_same, ha, c0, c1, c4⟩ Oth.set⟩
end
theorem pull {α : Type} {f : α → T} {P : α → Prop} : ∀ {out : List T}, (∀ y ∈ out, ∃ c, y = f c ∧ P c) → ∃ cs : List α, out = cs.map f ∧ ∀ c ∈ cs, P c
  | [], _ => ⟨[], rfl, fun _ h => (by cases h)⟩
  | y :: r, h => by
    obtain ⟨c, e, pc⟩ := h y List.mem_cons_self
    obtain ⟨cs, e2, pcs⟩ := pull (out := r) fun z hz => h z (List.mem_cons_of_mem _ hz)
    refine ⟨c :: cs, by rw [e, e2]; rfl, fun x hx => ?_⟩
    rcases List.mem_cons.mp hx with rfl | hx
    · exact pc
    · exact pcs x hx
/-- a list made by turns that draw from the pot -/
theorem lc_pot {vs : List Nat} {bd : BindT} {te : WE} {s : TSt} {ts : List T} {keep : Mh → Prop} {M1 : Mh} {Q : TQ} {p : Addr} (R : T → T → Prop) (hk : ∀ M', keep M') (hz : ts.length < 100000) (hp : PotAt M1 p)
    (h : ∀ t ∈ ts, ∀ M', PotAt M' p → Oth p M1 M' → ∃ b, bd t = some b ∧ ∀ Q' : TQ, (∀ y M2, R t y → PotAt M2 p → Oth p M1 M2 → Q' y M2) → te (setsT (twipe s vs) b) M' Q')
    (q : ∀ out M', out.length = ts.length → (∀ y ∈ out, ∃ t ∈ ts, R t y) → PotAt M' p → Oth p M1 M' → Q (.lst out) M') : lcI vs bd wYes te s ts keep M1 Q := by
  refine ⟨fun k acc M' => k ≤ ts.length ∧ acc.length = k ∧ (∀ y ∈ acc, ∃ t ∈ ts, R t y) ∧ PotAt M' p ∧ Oth p M1 M', ⟨Nat.zero_le _, rfl, fun _ h => (by cases h), hp, Oth.refl _ _⟩, fun k acc M' _ => hk M', fun k acc M' t et ⟨e0, e1, e2, e3, e4⟩ => ?_, fun acc M' ⟨e0, e1, e2, e3, e4⟩ => q acc M' e1 e2 e3 e4⟩
  have ht := List.mem_of_getElem? et
  obtain ⟨b, hb, f⟩ := h t ht M' e3 e4
  refine ⟨b, hb, fun _ => f _ fun y M2 r p2 o2 => ⟨by omega, ?_, ?_, ?_, p2, o2⟩, fun z => by cases z⟩
  · have := List.getElem?_eq_some_iff.mp et
    obtain ⟨h2, _⟩ := this
    omega
  · rw [List.length_append, e1]; rfl
  · intro z hz2
    rcases List.mem_append.mp hz2 with hz2 | hz2
    · exact e2 z hz2
    · rw [List.mem_singleton.mp hz2]
      exact ⟨t, ht, r⟩
def oneS (c : Nat) : Str := ⟨#[c]⟩
theorem join_ones1 : ∀ cs : List Nat, (PySem.Str.join ("" : Str) (cs.map oneS)) = ⟨cs.toArray⟩
  | [] => rfl
  | [c] => rfl
  | c :: d :: r => by
    have ih := join_ones1 (d :: r)
    show oneS c ++ ("" : Str) ++ PySem.Str.join ("" : Str) ((d :: r).map oneS) = _
    rw [ih]
    refine congrArg PySem.Str.mk ?_
    show (#[c] ++ #[]) ++ (d :: r).toArray = _
    simp
theorem join_ones (cs : List Nat) : (Txt.join ("" : Str) (cs.map oneS)) = ⟨cs.toArray⟩ := (TL.join_eq _ _).trans (join_ones1 cs)
/-- in a list that may be owned -/
def trInx (g : Bool → Bool) : T → T → Mh → TQ → Prop := fun x y M Q => ∃ xs b, view M y = some (.lst xs) ∧ xs.all flatT = true ∧ inT x xs = some b ∧ Q (.bl (g b)) M
theorem in_own {g : Bool → Bool} {x y : T} {M : Mh} {Q : TQ} (z : trInx g x y M Q) : trIn g x y M Q := by
  obtain ⟨xs, b, h, f, e, q⟩ := z
  unfold trIn
  rw [h]
  dsimp only
  rw [e]
  exact ⟨f, q⟩
theorem ot_notInx {X : Cx} : OpT X (compareOp .NotIn) (trInx not) := by
  obtain ⟨⟨r, h1, h2⟩, hm⟩ := ot_notIn (X := X)
  exact ⟨⟨r, h1, fun G M H x y xv yv Q Qv S rx ry z k => h2 G M H x y xv yv Q Qv S rx ry (in_own z) k⟩, fun x y M Q Q' i ⟨xs, b, h, f, e, q⟩ => ⟨xs, b, h, f, e, i _ _ q⟩⟩
theorem ot_inx {X : Cx} : OpT X (compareOp .In) (trInx id) := by
  obtain ⟨⟨r, h1, h2⟩, hm⟩ := ot_in (X := X)
  exact ⟨⟨r, h1, fun G M H x y xv yv Q Qv S rx ry z k => h2 G M H x y xv yv Q Qv S rx ry (in_own z) k⟩, fun x y M Q Q' i ⟨xs, b, h, f, e, q⟩ => ⟨xs, b, h, f, e, i _ _ q⟩⟩
theorem ones_sum (cs : List Nat) : ((cs.map oneS).map (·.length)).sum = cs.length := by
  induction cs with
  | nil => rfl
  | cons c cs ih =>
    rw [List.map_cons, List.map_cons, List.sum_cons, ih, List.length_cons]
    show 1 + cs.length = _
    omega
section
variable {P : Program} {w : World} {K : PySem.W.Frag} {mg : Str → Option Value} {base : Heap}

def F_L_word : TSpec := fun ts M Q => ∃ p, ts = [.adr p] ∧ PotAt M p ∧ ∀ x M', isW x → PotAt M' p → Oth p M M' → Q (.str x) M'
theorem kp_L_word (c : Fx K mg) : Kp P w K mg base ("_law_word", none) 2 1 (F_L_word) := by
  have k_L_take := kp_L_take (P := P) (w := w) (base := base) c
  refine kp_def (d := d_L_word) c M_L_word S_L_word rfl (fun FD => FD.bindsN fun _ _ _ _ _ _ us hl => match us, hl with | [_], _ => rfl) fun cdv A outer s H E hr => ⟨_, (
    (qss_cons (qs_set 1 S_L_word.nd qe_str)
      (qss_one (qs_ret (qe_join qe_str (qe_lc1 2 rfl S_L_word.nd (qi_range1 (qa_cons (qe_op ot_add qe_int (qe_op ot_mul (qe_fn (k_L_take) (hr.mono (by omega)) c.g_law_take (qa_cons (qv 0) (qa_cons qe_int qa_nil))) (qe_fn (k_L_take) (hr.mono (by omega)) c.g_law_take (qa_cons (qv 0) (qa_cons qe_int qa_nil))))) qa_nil) (by rfl) c.b_range) (blkOk_by (by rfl)) (fun s H C cl fp => qts_nil) (fun s H C cl fp => (qe_ix it_str (qv 1) (qe_fn (k_L_take) (hr.mono (by omega)) c.g_law_take (qa_cons (qv 0) (qa_cons qe_int qa_nil))))))))))), ?_⟩
  rintro ts M Q hl ⟨p, rfl, hp, q⟩
  refine ⟨⟨_, rfl⟩, rfl, cl_of ⟨p, 2, rfl, hp, by decide, by decide, fun d1 M1 a0 a1 p1 o1 => ⟨rfl, cl_of ⟨p, 8, rfl, p1, by decide, by decide, fun d2 M2 b0 b1 p2 o2 => ?_⟩⟩⟩⟩
  have m0 : 0 ≤ d1 * d2 := Int.mul_nonneg a0 b0
  have m1 : d1 * d2 ≤ 1 * d2 := Int.mul_le_mul_of_nonneg_right (by omega) b0
  refine ⟨.inl ⟨by omega, by omega⟩, by dsimp only; omega, by dsimp only; omega, ?_⟩
  refine lc_pot (p := p) (fun _ y => ∃ c : Nat, y = .str (oneS c) ∧ 97 ≤ c ∧ c ≤ 122) (fun _ => kT) (by rw [rngT_len]; dsimp only; omega) p2 (fun t ht M' hp' ho' => ⟨_, rfl, fun Q' q' => ?_⟩) fun out M' e1 e2 p3 o3 => ?_
  · refine ⟨rfl, cl_of ⟨p, 26, rfl, hp', by decide, by decide, fun d M3 c0 c1 p3 o3 => ?_⟩⟩
    refine ⟨97 + d.toNat, c0, by decide, ?_, ?_⟩
    · rw [letters, List.getElem?_range' (by omega), Nat.one_mul]
    · exact q' _ _ ⟨_, rfl, by omega, by omega⟩ p3 (ho'.trans o3)
  · obtain ⟨cs, e, hc⟩ := pull (f := fun c => .str (oneS c)) (P := fun c => 97 ≤ c ∧ c ≤ 122) fun y hy => let ⟨_, _, r⟩ := e2 y hy; r
    rw [rngT_len, e, List.length_map] at e1
    dsimp only at e1
    refine ⟨cs.map oneS, by rw [e, List.map_map]; rfl, ?_, ?_⟩
    · rw [ones_sum, List.length_map]
      show cs.length + cs.length * 0 ≤ 16777216
      omega
    · rw [join_ones]
      refine ⟨M', Msub.refl M', q _ M' ⟨?_, ?_, ?_⟩ p3 ((o1.trans o2).trans o3)⟩
      · show 1 ≤ cs.toArray.size
        rw [List.size_toArray]; omega
      · show cs.toArray.size ≤ 8
        rw [List.size_toArray]; omega
      · exact hc
def F_L_pool : TSpec := fun ts M Q => ∃ p, ts = [.adr p, .int 5] ∧ PotAt M p ∧ ∀ ws M', ws ≠ [] → ws.Nodup → ws.length ≤ 5 → (∀ x ∈ ws, isW x) → PotAt M' p → Oth p M M' → Q (.lst (strsT1 ws)) M'
theorem kp_L_pool (c : Fx K mg) : Kp P w K mg base ("_law_pool", none) 3 2 (F_L_pool) := by
  have k_L_word := kp_L_word (P := P) (w := w) (base := base) c
  refine kp_def (d := d_L_pool) c M_L_pool S_L_pool rfl (fun FD => FD.bindsN fun _ _ _ _ _ _ us hl => match us, hl with | [_, _], _ => rfl) fun cdv A outer s H E hr => ⟨_, (
    (qss_cons (qs_set 2 S_L_pool.nd (qe_lstO qa_nil))
      (qss_cons (qs_for PassesOwn.never rfl (qi_range1 (qa_cons (qv 1) qa_nil) (by rfl) c.b_range) (qg_name 3 S_L_pool.nd)
      (qss_cons (qs_set 4 S_L_pool.nd (qe_fn (k_L_word) (hr.mono (by omega)) c.g_law_word (qa_cons (qv 0) qa_nil)))
      (qss_one (qs_if (qt_cmp ot_notInx (qv 4) (qv 2))
      (qss_one (qs_expr (qe_appendx (qv 2) (qa_cons (qv 4) qa_nil))))
      qss_nil))))
      (qss_one (qs_ret (qe_sealx (qv 2))))))), ?_⟩
  rintro ts M Q hl ⟨p, rfl, hp, q⟩
  refine ⟨Nat.le_of_ble_eq_true rfl, fun l hl1 => ?_⟩
  have nl : p ≠ l := ne_free hp.ex.choose_spec.choose_spec.choose_spec.1 hl1
  refine ⟨by decide, by decide, ?_⟩
  refine ⟨fun k s' M' => ∃ (ws : List Str) (o1 o2 : Option T), M' l = some (.lst (strsT1 ws)) ∧ ws.Nodup ∧ ws.length ≤ k ∧ (0 < k → ws ≠ []) ∧ (∀ x ∈ ws, isW x) ∧ PotAt M' p ∧ (∀ x, x ≠ p → x ≠ l → M' x = M x) ∧ s' = [some (.adr p), some (.int 5), some (.adr l), o1, o2],
    ⟨[], none, none, mset_same, List.nodup_nil, Nat.le_refl _, (fun h => absurd h (Nat.lt_irrefl _)), (fun _ h => by cases h), ?_, fun x _ h2 => mset_ne h2, rfl⟩, fun _ _ _ _ => kT, ?_, ?_⟩
  · obtain ⟨a, b, i, h1, h2⟩ := hp
    exact ⟨a, b, i, (mset_ne nl).trans h1, h2⟩
  · rintro k s' M' t et ⟨ws, o1, o2, h1, h2, h3, h4, h5, h6, h7, rfl⟩
    refine ⟨rfl, cl_of ⟨p, rfl, h6, fun x M2 hx p2 ot => ?_⟩⟩
    have hk : k < 5 := by
      obtain ⟨z, _⟩ := List.getElem?_eq_some_iff.mp et
      rw [rngT_len] at z
      exact z
    have hM2 : M2 l = some (.lst (strsT1 ws)) := (ot l (Ne.symm nl)).trans h1
    have e5 : inT (.str x) (strsT1 ws) = some (decide (x ∈ ws)) := congrArg some (inS_map x ws)
    refine ⟨_, _, hM2, flatS ws, e5, ?_⟩
    have ns : ∀ y, y ≠ p → y ≠ l → M2 y = M y := fun y ha hb => (ot y ha).trans (h7 y ha hb)
    by_cases hin : x ∈ ws
    · refine non hin ⟨ws, _, _, hM2, h2, by omega, fun _ z => ?_, h5, p2, ns, rfl⟩
      rw [z] at hin
      cases hin
    · refine yesn hin ⟨⟨l, _, rfl, hM2, trivial⟩, l, _, rfl, hM2, by rw [List.length_map]; omega, ?_⟩
      refine ⟨ws ++ [x], _, _, by rw [mset_same, show strsT1 (ws ++ [x]) = strsT1 ws ++ [.str x] from List.map_append], ?_, by rw [List.length_append]; show ws.length + 1 ≤ k + 1; omega, fun _ z => by simp at z, fun y hy => ?_, ?_, fun y ha hb => (mset_ne hb).trans (ns y ha hb), rfl⟩
      · rw [List.nodup_append]
        exact ⟨h2, by simp, fun a ha b hb e => hin (by rw [← List.mem_singleton.mp hb, ← e]; exact ha)⟩
      · rcases List.mem_append.mp hy with hy | hy
        · exact h5 y hy
        · rw [List.mem_singleton.mp hy]
          exact hx
      · obtain ⟨a, b, i, g1, g2⟩ := p2
        exact ⟨a, b, i, (mset_ne nl).trans g1, g2⟩
  · rintro s' M' ⟨ws, o1, o2, h1, h2, h3, h4, h5, h6, h7, rfl⟩
    rw [rngT_len] at h3 h4
    refine ⟨l, _, rfl, h1, trivial, _, Msub.refl _, q ws _ (h4 (by decide)) h2 h3 h5 ?_ fun y hy => ?_⟩
    · obtain ⟨a, b, i, g1, g2⟩ := h6
      exact ⟨a, b, i, (mdel_ne nl).trans g1, g2⟩
    · by_cases e : y = l
      · rw [e, mdel_same]
        have : M l = none := hl1
        rw [this]
      · rw [mdel_ne e]
        exact h7 y hy e
def F_L_lot : TSpec := fun ts M Q => ∃ p, ts = [.adr p] ∧ PotAt M p ∧ ∀ ws M', Lot ws → PotAt M' p → Oth p M M' → Q (lotT ws) M'
theorem kp_L_lot (c : Fx K mg) : Kp P w K mg base ("_law_lot", none) 3 1 (F_L_lot) := by
  have k_L_take := kp_L_take (P := P) (w := w) (base := base) c
  have k_L_word := kp_L_word (P := P) (w := w) (base := base) c
  refine kp_def (d := d_L_lot) c M_L_lot S_L_lot rfl (fun FD => FD.bindsN fun _ _ _ _ _ _ us hl => match us, hl with | [_], _ => rfl) fun cdv A outer s H E hr => ⟨_, (
    (qss_one (qs_ret (qe_callTy ct_tuple c.b_tuple (qa_cons (qe_sortSet rfl (qe_lc1 1 rfl S_L_lot.nd (qi_range1 (qa_cons (qe_ix it_seqx (qe_lst (qa_cons qe_int (qa_cons qe_int (qa_cons qe_int (qa_cons qe_int qa_nil))))) (qe_fn (k_L_take) (hr.mono (by omega)) c.g_law_take (qa_cons (qv 0) (qa_cons qe_int qa_nil)))) qa_nil) (by rfl) c.b_range) (blkOk_by (by rfl)) (fun s H C cl fp => qts_nil) (fun s H C cl fp => (qe_fn (k_L_word) (hr.mono (by omega)) c.g_law_word (qa_cons (qv 0) qa_nil)))) (by rfl) c.b_sorted (by rfl) c.b_set) qa_nil))))), ?_⟩
  rintro ts M Q hl ⟨p, rfl, hp, q⟩
  refine ⟨Nat.le_of_ble_eq_true rfl, rfl, cl_of ⟨p, 4, rfl, hp, by decide, by decide, fun d M1 a0 a1 p1 o1 => ?_⟩⟩
  have pick : ∃ n : Nat, n ≤ 2 ∧ tget [T.int 0, .int 0, .int 1, .int 2] d = some (.int (n : Nat)) := by
    have : d = 0 ∨ d = 1 ∨ d = 2 ∨ d = 3 := by omega
    rcases this with rfl | rfl | rfl | rfl
    · exact ⟨0, by decide, rfl⟩
    · exact ⟨0, by decide, rfl⟩
    · exact ⟨1, by decide, rfl⟩
    · exact ⟨2, by decide, rfl⟩
  obtain ⟨n, hn, en⟩ := pick
  refine ⟨_, _, _, .inl rfl, rfl, en, by omega, by omega, ?_⟩
  refine lc_pot (p := p) (fun _ y => ∃ x : Str, y = .str x ∧ isW x) (fun _ => kT) (by rw [rngT_len]; omega) p1 (fun t ht M' hp' ho' => ⟨_, rfl, fun Q' q' => ?_⟩) fun out M' e1 e2 p3 o3 => ?_
  · exact ⟨rfl, cl_of ⟨p, rfl, hp', fun x M2 hx p2 o2 => q' _ _ ⟨x, rfl, hx⟩ p2 (ho'.trans o2)⟩⟩
  · obtain ⟨xs, e, hx⟩ := pull (f := T.str) (P := isW) fun y hy => let ⟨_, _, r⟩ := e2 y hy; r
    rw [rngT_len, e, List.length_map] at e1
    refine ⟨xs.map T.str, by rw [e]; rfl, by rw [List.length_map]; omega, .inr ⟨xs, rfl, fun ms nd so hm => ?_⟩⟩
    refine ⟨M', Msub.refl M', q ms M' ⟨sorted_ltS ms so nd, fun x h => hx x ((hm x).1 h), ?_⟩ p3 (o1.trans o3)⟩
    have := few_of ms xs nd fun x h => (hm x).1 h
    omega
def F_L_minute : TSpec := fun ts M Q => ∃ p, ts = [.adr p] ∧ PotAt M p ∧ ∀ m M', 0 ≤ m → m < 1440 → PotAt M' p → Oth p M M' → Q (.int m) M'
theorem kp_L_minute (c : Fx K mg) : Kp P w K mg base ("_law_minute", none) 2 1 (F_L_minute) := by
  have k_L_take := kp_L_take (P := P) (w := w) (base := base) c
  refine kp_def (d := d_L_minute) c M_L_minute S_L_minute rfl (fun FD => FD.bindsN fun _ _ _ _ _ _ us hl => match us, hl with | [_], _ => rfl) fun cdv A outer s H E hr => ⟨_, (
    (qss_cons (qs_if (qt_cmp ot_gt (qe_fn (k_L_take) (hr.mono (by omega)) c.g_law_take (qa_cons (qv 0) (qa_cons qe_int qa_nil))) qe_int)
      (qss_one (qs_ret (qe_ix it_seqx (qe_lst (qa_cons qe_int (qa_cons qe_int (qa_cons qe_int (qa_cons qe_int (qa_cons qe_int qa_nil)))))) (qe_fn (k_L_take) (hr.mono (by omega)) c.g_law_take (qa_cons (qv 0) (qa_cons qe_int qa_nil))))))
      qss_nil)
      (qss_one (qs_ret (qe_fn (k_L_take) (hr.mono (by omega)) c.g_law_take (qa_cons (qv 0) (qa_cons qe_int qa_nil))))))), ?_⟩
  rintro ts M Q hl ⟨p, rfl, hp, q⟩
  refine ⟨rfl, cl_of ⟨p, 3, rfl, hp, by decide, by decide, fun d M1 a0 a1 p1 o1 => ?_⟩⟩
  by_cases z : 0 < d
  · refine yesd z ⟨Nat.le_of_ble_eq_true rfl, rfl, cl_of ⟨p, 5, rfl, p1, by decide, by decide, fun j M2 b0 b1 p2 o2 => ?_⟩⟩
    have pick : ∃ m : Int, 0 ≤ m ∧ m < 1440 ∧ tget [T.int 0, .int 420, .int 425, .int 480, .int 1439] j = some (.int m) := by
      have : j = 0 ∨ j = 1 ∨ j = 2 ∨ j = 3 ∨ j = 4 := by omega
      rcases this with rfl | rfl | rfl | rfl | rfl
      · exact ⟨0, by decide, by decide, rfl⟩
      · exact ⟨420, by decide, by decide, rfl⟩
      · exact ⟨425, by decide, by decide, rfl⟩
      · exact ⟨480, by decide, by decide, rfl⟩
      · exact ⟨1439, by decide, by decide, rfl⟩
    obtain ⟨m, m0, m1, em⟩ := pick
    exact ⟨_, _, _, .inl rfl, rfl, em, M2, Msub.refl M2, q m M2 m0 m1 p2 (o1.trans o2)⟩
  · refine nod z ⟨rfl, cl_of ⟨p, 1440, rfl, p1, by decide, by decide, fun j M2 b0 b1 p2 o2 => ⟨M2, Msub.refl M2, q j M2 b0 b1 p2 (o1.trans o2)⟩⟩⟩
theorem rep_int' {a : Int} : ∀ n : Nat, (List.replicate n [T.int a]).flatten = intsT (List.replicate n a)
  | 0 => rfl
  | n + 1 => by
    rw [List.replicate_succ, List.replicate_succ, List.flatten_cons, rep_int' n]
    rfl
theorem days_ok {b : Str} {low g f e : Int} {hi : Option Int} (hb : isBits b) (l0 : 0 ≤ low) (l1 : low ≤ 3) (hh : ∀ h, hi = some h → 0 ≤ h ∧ low ≤ h) (g0 : 0 ≤ g) (g1 : g < 2) (f0 : 0 ≤ f) (f1 : f < 3) (e0 : 0 ≤ e) :
    LD.Ok ⟨b, low, hi, List.replicate g.toNat (low + 1), List.replicate (f / 2).toNat (9 + e)⟩ := by
  refine ⟨hb, l0, hh, ?_, ?_, ?_, ?_⟩
  · show (List.replicate g.toNat (low + 1)).length ≤ 1
    rw [List.length_replicate]; omega
  · intro n hn
    have := List.eq_of_mem_replicate hn
    omega
  · show (List.replicate (f / 2).toNat (9 + e)).length ≤ 1
    rw [List.length_replicate]; omega
  · intro n hn
    have h1 := List.eq_of_mem_replicate hn
    refine ⟨by omega, fun h => ?_⟩
    have h2 := List.eq_of_mem_replicate h
    omega
def F_L_days : TSpec := fun ts M Q => ∃ p, ts = [.adr p] ∧ PotAt M p ∧ ∀ d M', LD.Ok d → PotAt M' p → Oth p M M' → Q (dayL d) M'
theorem kp_L_days (c : Fx K mg) : Kp P w K mg base ("_law_days", none) 2 1 (F_L_days) := by
  have k_L_take := kp_L_take (P := P) (w := w) (base := base) c
  refine kp_def (d := d_L_days) c M_L_days S_L_days rfl (fun FD => FD.bindsN fun _ _ _ _ _ _ us hl => match us, hl with | [_], _ => rfl) fun cdv A outer s H E hr => ⟨_, (
    (qss_cons (qs_set 1 S_L_days.nd (qe_fn (k_L_take) (hr.mono (by omega)) c.g_law_take (qa_cons (qv 0) (qa_cons qe_int qa_nil))))
      (qss_cons (qs_set 3 S_L_days.nd (qe_join qe_str (qe_lc1 2 rfl S_L_days.nd (qi_range1 (qa_cons (qe_op ot_add qe_int (qe_fn (k_L_take) (hr.mono (by omega)) c.g_law_take (qa_cons (qv 0) (qa_cons qe_int qa_nil)))) qa_nil) (by rfl) c.b_range) (blkOk_by (by rfl)) (fun s H C cl fp => qts_nil) (fun s H C cl fp => (qe_ix it_str qe_str (qe_fn (k_L_take) (hr.mono (by omega)) c.g_law_take (qa_cons (qv 0) (qa_cons qe_int qa_nil))))))))
      (qss_cons (qs_set 4 S_L_days.nd (qe_op ot_mul (qe_fn (k_L_take) (hr.mono (by omega)) c.g_law_take (qa_cons (qv 0) (qa_cons qe_int qa_nil))) (qe_op ot_mod (qv 1) qe_int)))
      (qss_cons (qs_set 5 S_L_days.nd qe_non)
      (qss_cons (qs_if (qt_cmp ot_gt (qv 1) qe_int)
      (qss_one (qs_set 5 S_L_days.nd (qe_op ot_add (qv 4) (qe_fn (k_L_take) (hr.mono (by omega)) c.g_law_take (qa_cons (qv 0) (qa_cons qe_int qa_nil))))))
      qss_nil)
      (qss_cons (qs_set 6 S_L_days.nd (qe_op ot_rep (qe_lst (qa_cons (qe_op ot_add (qv 4) qe_int) qa_nil)) (qe_fn (k_L_take) (hr.mono (by omega)) c.g_law_take (qa_cons (qv 0) (qa_cons qe_int qa_nil)))))
      (qss_cons (qs_set 7 S_L_days.nd (qe_op ot_rep (qe_lst (qa_cons (qe_op ot_add qe_int (qe_fn (k_L_take) (hr.mono (by omega)) c.g_law_take (qa_cons (qv 0) (qa_cons qe_int qa_nil)))) qa_nil)) (qe_op ot_fdiv (qe_fn (k_L_take) (hr.mono (by omega)) c.g_law_take (qa_cons (qv 0) (qa_cons qe_int qa_nil))) qe_int)))
      (qss_one (qs_ret (qe_tup (qa_cons (qv 3) (qa_cons (qv 4) (qa_cons (qv 5) (qa_cons (qv 6) (qa_cons (qv 7) qa_nil)))))))))))))))), ?_⟩
  rintro ts M Q hl ⟨p, rfl, hp, q⟩
  refine ⟨rfl, cl_of ⟨p, 4, rfl, hp, by decide, by decide, fun way M1 a0 a1 p1 o1 => ?_⟩⟩
  refine ⟨⟨_, rfl⟩, rfl, cl_of ⟨p, 3, rfl, p1, by decide, by decide, fun n M2 b0 b1 p2 o2 => ?_⟩⟩
  refine ⟨by dsimp only; omega, by dsimp only; omega, ?_⟩
  refine lc_pot (p := p) (fun _ y => ∃ c : Nat, y = .str (oneS c) ∧ (c = 48 ∨ c = 49)) (fun _ => kT) (by rw [rngT_len]; dsimp only; omega) p2 (fun t ht M' hp' ho' => ⟨_, rfl, fun Q' q' => ?_⟩) fun out M3 e1 e2 p3 o3 => ?_
  · refine ⟨rfl, cl_of ⟨p, 3, rfl, hp', by decide, by decide, fun d M3 c0 c1 p3 o3 => ?_⟩⟩
    have pick : ∃ c : Nat, (c = 48 ∨ c = 49) ∧ ("011" : Str).cps.toList[d.toNat]? = some c := by
      have : d = 0 ∨ d = 1 ∨ d = 2 := by omega
      rcases this with rfl | rfl | rfl
      · exact ⟨48, .inl rfl, by decide⟩
      · exact ⟨49, .inr rfl, by decide⟩
      · exact ⟨49, .inr rfl, by decide⟩
    obtain ⟨ch, hc, ec⟩ := pick
    exact ⟨ch, c0, by decide, ec, q' _ _ ⟨_, rfl, hc⟩ p3 (ho'.trans o3)⟩
  obtain ⟨cs, e, hc⟩ := pull (f := fun c => .str (oneS c)) (P := fun c => c = 48 ∨ c = 49) fun y hy => let ⟨_, _, r⟩ := e2 y hy; r
  rw [rngT_len, e, List.length_map] at e1
  dsimp only at e1
  refine ⟨cs.map oneS, by rw [e, List.map_map]; rfl, ?_, ?_⟩
  · rw [ones_sum, List.length_map]
    show cs.length + cs.length * 0 ≤ 16777216
    omega
  rw [join_ones]
  have bits : isBits ⟨cs.toArray⟩ := by
    refine ⟨?_, ?_, hc⟩
    · show 1 ≤ cs.toArray.size
      rw [List.size_toArray]; omega
    · show cs.toArray.size ≤ 7
      rw [List.size_toArray]; omega
  refine ⟨rfl, cl_of ⟨p, 4, rfl, p3, by decide, by decide, fun l M4 l0 l1 p4 o4 => ?_⟩⟩
  have z2 : (0 : Int) < 2 := by decide
  have w0 : 0 ≤ way % 2 ∧ way % 2 < 2 := ⟨Int.emod_nonneg _ (by decide), Int.emod_lt_of_pos _ (by decide)⟩
  have w1 : 0 ≤ l * (way % 2) := Int.mul_nonneg l0 w0.1
  have w2 : l * (way % 2) ≤ l * 1 := Int.mul_le_mul_of_nonneg_left (by omega) l0
  refine ⟨z2, .inl ⟨by omega, by omega⟩, ?_⟩
  by_cases hw : 1 < way
  · refine yesd hw ⟨rfl, cl_of ⟨p, 7, rfl, p4, by decide, by decide, fun u M5 u0 u1 p5 o5 => ?_⟩⟩
    refine ⟨Nat.le_of_ble_eq_true rfl, rfl, cl_of ⟨p, 2, rfl, p5, by decide, by decide, fun g M6 g0 g1 p6 o6 => ?_⟩⟩
    refine ⟨g0, by omega, Nat.le_of_ble_eq_true rfl, rfl, cl_of ⟨p, 3, rfl, p6, by decide, by decide, fun e M7 e0 e1 p7 o7 => ?_⟩⟩
    refine ⟨Nat.le_of_ble_eq_true rfl, rfl, cl_of ⟨p, 3, rfl, p7, by decide, by decide, fun f M8 f0 f1 p8 o8 => ?_⟩⟩
    refine ⟨⟨by decide, by decide⟩, by dsimp only; omega, by dsimp only; omega, Nat.le_of_ble_eq_true rfl, Nat.le_of_ble_eq_true rfl, ?_⟩
    dsimp only
    rw [rep_int', rep_int']
    refine ⟨M8, Msub.refl M8, q ⟨⟨cs.toArray⟩, l * (way % 2), some (l * (way % 2) + u), List.replicate g.toNat (l * (way % 2) + 1), List.replicate (f / 2).toNat (9 + e)⟩ M8 (days_ok bits w1 (by omega) (fun h eh => by cases eh; omega) g0 g1 f0 f1 e0) p8 ?_⟩
    exact ((((((o1.trans o2).trans o3).trans o4).trans o5).trans o6).trans o7).trans o8
  · refine nod hw ?_
    refine ⟨Nat.le_of_ble_eq_true rfl, rfl, cl_of ⟨p, 2, rfl, p4, by decide, by decide, fun g M6 g0 g1 p6 o6 => ?_⟩⟩
    refine ⟨g0, by omega, Nat.le_of_ble_eq_true rfl, rfl, cl_of ⟨p, 3, rfl, p6, by decide, by decide, fun e M7 e0 e1 p7 o7 => ?_⟩⟩
    refine ⟨Nat.le_of_ble_eq_true rfl, rfl, cl_of ⟨p, 3, rfl, p7, by decide, by decide, fun f M8 f0 f1 p8 o8 => ?_⟩⟩
    refine ⟨⟨by decide, by decide⟩, by dsimp only; omega, by dsimp only; omega, Nat.le_of_ble_eq_true rfl, Nat.le_of_ble_eq_true rfl, ?_⟩
    dsimp only
    rw [rep_int', rep_int']
    refine ⟨M8, Msub.refl M8, q ⟨⟨cs.toArray⟩, l * (way % 2), none, List.replicate g.toNat (l * (way % 2) + 1), List.replicate (f / 2).toNat (9 + e)⟩ M8 (days_ok bits w1 (by omega) (fun h eh => by cases eh) g0 g1 f0 f1 e0) p8 ?_⟩
    exact (((((o1.trans o2).trans o3).trans o4).trans o6).trans o7).trans o8
end
end Tr

set_option Elab.async false
set_option linter.all false
set_option maxRecDepth 100000
set_option maxHeartbeats 4000000
namespace Tr
open PySem PySem.Spec L2

/-! ### the law's cards -/
def lcT : LC → T
  | .once s l => .tup [.str "once", .lst (intsT s), lotT l]
  | .every d s l => .tup [.str "every", dayL d, .lst (intsT s), lotT l]
  | .as n => .tup [.str "as", .str n]
  | .later c m => .tup [.str "later", lcT c, .int m]
  | .noted c w => .tup [.str "noted", lcT c, .str w]
  | .less a b => .tup [.str "less", lcT a, lcT b]
  | .swap a d b => .tup [.str "swap", lcT a, dayL d, lcT b]
  | .join a b => .tup [.str "join", lcT a, lcT b]
def isLeaf : LC → Prop
  | .once _ _ => True
  | .every _ _ _ => True
  | _ => False
theorem few_ints {ms ns : List Int} (h : ms.Pairwise (· < ·)) (hm : ∀ k ∈ ms, k ∈ ns) : ms.length ≤ ns.length := by
  have e := few_of (ms.map fun i => (Sum.inl i : Key)) (ns.map fun i => (Sum.inl i : Key)) (List.pairwise_map.mpr (h.imp fun {a b} z e => by
    have := Sum.inl.inj e
    omega)) fun j hj => by
      obtain ⟨i, hi, rfl⟩ := List.mem_map.mp hj
      exact List.mem_map.mpr ⟨i, hm i hi, rfl⟩
  rwa [List.length_map, List.length_map] at e

section
variable {P : Program} {w : World} {K : PySem.W.Frag} {mg : Str → Option Value} {base : Heap}

def F_L_leaf : TSpec := fun ts M Q => ∃ p, ts = [.adr p] ∧ PotAt M p ∧ ∀ c M', okC c → isLeaf c → PotAt M' p → Oth p M M' → Q (lcT c) M'
theorem kp_L_leaf (c : Fx K mg) : Kp P w K mg base ("_law_leaf", none) 4 1 (F_L_leaf) := by
  have k_L_days := kp_L_days (P := P) (w := w) (base := base) c
  have k_L_lot := kp_L_lot (P := P) (w := w) (base := base) c
  have k_L_minute := kp_L_minute (P := P) (w := w) (base := base) c
  have k_L_take := kp_L_take (P := P) (w := w) (base := base) c
  refine kp_def (d := d_L_leaf) c M_L_leaf S_L_leaf rfl (fun FD => FD.bindsN fun _ _ _ _ _ _ us hl => match us, hl with | [_], _ => rfl) fun cdv A outer s H E hr => ⟨_, (
    (qss_cons (qs_set 1 S_L_leaf.nd (qe_fn (k_L_take) (hr.mono (by omega)) c.g_law_take (qa_cons (qv 0) (qa_cons qe_int qa_nil))))
      (qss_cons (qs_set 3 S_L_leaf.nd (qe_sortSet rfl (qe_lc1 2 rfl S_L_leaf.nd (qi_range1 (qa_cons (qe_op ot_add qe_int (qe_fn (k_L_take) (hr.mono (by omega)) c.g_law_take (qa_cons (qv 0) (qa_cons qe_int qa_nil)))) qa_nil) (by rfl) c.b_range) (blkOk_by (by rfl)) (fun s H C cl fp => qts_nil) (fun s H C cl fp => (qe_fn (k_L_minute) (hr.mono (by omega)) c.g_law_minute (qa_cons (qv 0) qa_nil)))) (by rfl) c.b_sorted (by rfl) c.b_set))
      (qss_cons (qs_if (qt_cmp ot_eq (qv 1) qe_int)
      (qss_one (qs_ret (qe_tup (qa_cons qe_str (qa_cons (qe_fn (k_L_days) (hr.mono (by omega)) c.g_law_days (qa_cons (qv 0) qa_nil)) (qa_cons (qv 3) (qa_cons (qe_fn (k_L_lot) (hr.mono (by omega)) c.g_law_lot (qa_cons (qv 0) qa_nil)) qa_nil)))))))
      qss_nil)
      (qss_one (qs_ret (qe_tup (qa_cons qe_str (qa_cons (qe_sortSet rfl (qe_lc1 4 rfl S_L_leaf.nd (qi_lst (qv 3)) (blkOk_by (by rfl)) (fun s H C cl fp => qts_nil) (fun s H C cl fp => (qe_op ot_add (qe_op ot_mul qe_int (qe_fn (k_L_take) (hr.mono (by omega)) c.g_law_take (qa_cons (qv 0) (qa_cons qe_int qa_nil)))) (qv 4)))) (by rfl) c.b_sorted (by rfl) c.b_set) (qa_cons (qe_fn (k_L_lot) (hr.mono (by omega)) c.g_law_lot (qa_cons (qv 0) qa_nil)) qa_nil)))))))))), ?_⟩
  rintro ts M Q hl ⟨p, rfl, hp, q⟩
  refine ⟨rfl, cl_of ⟨p, 2, rfl, hp, by decide, by decide, fun way M1 a0 a1 p1 o1 => ?_⟩⟩
  refine ⟨rfl, cl_of ⟨p, 3, rfl, p1, by decide, by decide, fun n M2 b0 b1 p2 o2 => ?_⟩⟩
  refine ⟨by dsimp only; omega, by dsimp only; omega, ?_⟩
  refine lc_pot (p := p) (fun _ y => ∃ m : Int, y = .int m ∧ 0 ≤ m ∧ m < 1440) (fun _ => kT) (by rw [rngT_len]; dsimp only; omega) p2 (fun t ht M' hp' ho' => ⟨_, rfl, fun Q' q' => ?_⟩) fun out M3 e1 e2 p3 o3 => ?_
  · exact ⟨rfl, cl_of ⟨p, rfl, hp', fun m M2 h0 h1 p2 o2 => q' _ _ ⟨m, rfl, h0, h1⟩ p2 (ho'.trans o2)⟩⟩
  obtain ⟨ns, e, hn⟩ := pull (f := T.int) (P := fun m => 0 ≤ m ∧ m < 1440) fun y hy => let ⟨_, _, r⟩ := e2 y hy; r
  rw [rngT_len, e, List.length_map] at e1
  dsimp only at e1
  refine ⟨ns.map T.int, by rw [e]; rfl, by rw [List.length_map]; omega, .inl ⟨ns, rfl, fun ms row hm => ?_⟩⟩
  have len := few_ints row fun k h => (hm k).1 h
  have ne : ms ≠ [] := fun z => by
    cases hns : ns with
    | nil => rw [hns] at e1; simp at e1; omega
    | cons x r =>
      have := (hm x).2 (by rw [hns]; exact List.mem_cons_self)
      rw [z] at this
      cases this
  have sp : Spots ms := ⟨row, fun m h => (hn m ((hm m).1 h)).1, by omega, fun m h => by have := (hn m ((hm m).1 h)).2; omega⟩
  by_cases z : way = 0
  · refine yesd z ⟨rfl, cl_of ⟨p, rfl, p3, fun d M4 hd p4 o4 => ⟨rfl, cl_of ⟨p, rfl, p4, fun ws M5 hw p5 o5 => ?_⟩⟩⟩⟩
    refine ⟨Nat.le_of_ble_eq_true rfl, M5, Msub.refl M5, q (.every d ms ws) M5 ⟨hd, sp, ne, by omega, fun m h => (hn m ((hm m).1 h)).2, hw⟩ trivial p5 ((((o1.trans o2).trans o3).trans o4).trans o5)⟩
  · refine nod z ?_
    refine lc_pot (p := p) (fun _ y => ∃ m : Int, y = .int m ∧ 0 ≤ m ∧ m < 6000) (fun _ => kT) (by rw [List.length_map]; omega) p3 (fun t ht M' hp' ho' => ⟨_, rfl, fun Q' q' => ?_⟩) fun out M4 f1 f2 p4 o4 => ?_
    · obtain ⟨m, hmm, rfl⟩ := List.mem_map.mp ht
      have m0 := hn m ((hm m).1 hmm)
      refine ⟨rfl, cl_of ⟨p, 4, rfl, hp', by decide, by decide, fun d M2 c0 c1 p2 o2 => ?_⟩⟩
      refine ⟨.inl (by decide), q' _ _ ⟨_, rfl, ?_, ?_⟩ p2 (ho'.trans o2)⟩
      · dsimp only
        omega
      · dsimp only
        omega
    obtain ⟨ns2, g, hn2⟩ := pull (f := T.int) (P := fun m => 0 ≤ m ∧ m < 6000) fun y hy => let ⟨_, _, r⟩ := f2 y hy; r
    rw [List.length_map, g, List.length_map] at f1
    refine ⟨ns2.map T.int, by rw [g]; rfl, by rw [List.length_map]; omega, .inl ⟨ns2, rfl, fun ms2 row2 hm2 => ?_⟩⟩
    have len2 := few_ints row2 fun k h => (hm2 k).1 h
    have ne2 : ms2 ≠ [] := fun z => by
      cases hns : ns2 with
      | nil =>
        rw [hns] at f1
        exact ne (List.length_eq_zero_iff.mp f1.symm)
      | cons x r =>
        have := (hm2 x).2 (by rw [hns]; exact List.mem_cons_self)
        rw [z] at this
        cases this
    refine ⟨rfl, cl_of ⟨p, rfl, p4, fun ws M5 hw p5 o5 => ?_⟩⟩
    refine ⟨Nat.le_of_ble_eq_true rfl, M5, Msub.refl M5, q (.once ms2 ws) M5 ⟨⟨row2, fun m h => (hn2 m ((hm2 m).1 h)).1, by omega, fun m h => (hn2 m ((hm2 m).1 h)).2⟩, ne2, hw⟩ trivial p5 ((((o1.trans o2).trans o3).trans o4).trans o5)⟩
structure CardOk (c : LC) (deep : Nat) (ns : List Str) : Prop where
  ok : okC c
  ht : c.ht ≤ deep
  wt : c.wt + 1 ≤ 2 ^ (deep + 1)
  nm : ∀ j ∈ c.names, j ∈ ns
def F_L_card (n : Nat) : TSpec := fun ts M Q => ∃ (p : Addr) (deep : Nat) (ns : List Str), ts = [.adr p, .int (deep : Nat), .lst (strsT1 ns)] ∧ deep < n ∧ PotAt M p ∧ (∀ x ∈ ns, isW x) ∧ ns.length ≤ 5 ∧ ∀ c M', CardOk c deep ns → PotAt M' p → Oth p M M' → Q (lcT c) M'
theorem word_ok {x : Str} (h : isW x) : PyData.strOk x = true := by
  unfold PyData.strOk
  rw [← Array.all_toList, List.all_eq_true]
  intro d hd
  have := h.abc d hd
  exact decide_eq_true (by omega)
theorem leaf_ok {c : LC} {deep : Nat} {ns : List Str} (h : okC c) (l : isLeaf c) : CardOk c deep ns := by
  have p1 : 1 ≤ 2 ^ deep := Nat.one_le_two_pow
  have p2 : 2 ^ (deep + 1) = 2 * 2 ^ deep := by rw [Nat.pow_succ, Nat.mul_comm]
  cases c with
  | once s l => exact ⟨h, Nat.zero_le _, by show 2 ≤ _; omega, fun _ h => by cases h⟩
  | every d s l => exact ⟨h, Nat.zero_le _, by show 2 ≤ _; omega, fun _ h => by cases h⟩
  | _ => cases l
theorem kp_L_card (c : Fx K mg) {n : Nat} (k_L_card : Kp P w K mg base ("_law_card", none) (4 + n) 3 (F_L_card n)) : Kp P w K mg base ("_law_card", none) (4 + n + 1) 3 (F_L_card (n + 1)) := by
  have k_L_days := kp_L_days (P := P) (w := w) (base := base) c
  have k_L_leaf := kp_L_leaf (P := P) (w := w) (base := base) c
  have k_L_take := kp_L_take (P := P) (w := w) (base := base) c
  have k_L_word := kp_L_word (P := P) (w := w) (base := base) c
  refine kp_def (d := d_L_card) c M_L_card S_L_card rfl (fun FD => FD.bindsN fun _ _ _ _ _ _ us hl => match us, hl with | [_, _, _], _ => rfl) fun cdv A outer s H E hr => ⟨_, (
    (qss_cons (qs_set 3 S_L_card.nd (qe_fn (k_L_take) (hr.mono (by omega)) c.g_law_take (qa_cons (qv 0) (qa_cons qe_int qa_nil))))
      (qss_cons (qs_if (QW.qt (qw_and (qt_cmp (ot_neNil hr.units) (qv 2) (qe_lst qa_nil)) (qw_and1 (qt_cmp ot_gt (qv 3) qe_int))))
      (qss_one (qs_ret (qe_tup (qa_cons qe_str (qa_cons (qe_ix it_seqx (qv 2) (qe_fn (k_L_take) (hr.mono (by omega)) c.g_law_take (qa_cons (qv 0) (qa_cons (qe_callB ct_len c.b_len (qa_cons (qv 2) qa_nil)) qa_nil)))) qa_nil)))))
      qss_nil)
      (qss_cons (qs_if (QW.qt (qw_or (qt_cmp ot_eq (qv 1) qe_int) (qw_or (qt_cmp ot_lt (qv 3) qe_int) (qw_or1 (qt_cmp ot_gt (qv 3) qe_int)))))
      (qss_one (qs_ret (qe_fn (k_L_leaf) (hr.mono (by omega)) c.g_law_leaf (qa_cons (qv 0) qa_nil))))
      qss_nil)
      (qss_cons (qs_set 4 S_L_card.nd (qe_fn (k_L_card) (hr.mono (by omega)) c.g_law_card (qa_cons (qv 0) (qa_cons (qe_op ot_sub (qv 1) qe_int) (qa_cons (qv 2) qa_nil)))))
      (qss_cons (qs_if (qt_cmp ot_eq (qv 3) qe_int)
      (qss_one (qs_ret (qe_tup (qa_cons qe_str (qa_cons (qv 4) (qa_cons (qe_ix it_seqx (qe_lst (qa_cons qe_int (qa_cons qe_int (qa_cons qe_int (qa_cons qe_int (qa_cons qe_int qa_nil)))))) (qe_fn (k_L_take) (hr.mono (by omega)) c.g_law_take (qa_cons (qv 0) (qa_cons qe_int qa_nil)))) qa_nil))))))
      qss_nil)
      (qss_cons (qs_if (qt_cmp ot_eq (qv 3) qe_int)
      (qss_one (qs_ret (qe_tup (qa_cons qe_str (qa_cons (qv 4) (qa_cons (qe_fn (k_L_word) (hr.mono (by omega)) c.g_law_word (qa_cons (qv 0) qa_nil)) qa_nil))))))
      qss_nil)
      (qss_cons (qs_if (qt_cmp ot_eq (qv 3) qe_int)
      (qss_one (qs_ret (qe_tup (qa_cons qe_str (qa_cons (qv 4) (qa_cons (qe_fn (k_L_card) (hr.mono (by omega)) c.g_law_card (qa_cons (qv 0) (qa_cons (qe_op ot_sub (qv 1) qe_int) (qa_cons (qv 2) qa_nil)))) qa_nil))))))
      qss_nil)
      (qss_cons (qs_if (qt_cmp ot_eq (qv 3) qe_int)
      (qss_one (qs_ret (qe_tup (qa_cons qe_str (qa_cons (qv 4) (qa_cons (qe_fn (k_L_days) (hr.mono (by omega)) c.g_law_days (qa_cons (qv 0) qa_nil)) (qa_cons (qe_fn (k_L_card) (hr.mono (by omega)) c.g_law_card (qa_cons (qv 0) (qa_cons (qe_op ot_sub (qv 1) qe_int) (qa_cons (qv 2) qa_nil)))) qa_nil)))))))
      qss_nil)
      (qss_one (qs_ret (qe_tup (qa_cons qe_str (qa_cons (qv 4) (qa_cons (qe_fn (k_L_card) (hr.mono (by omega)) c.g_law_card (qa_cons (qv 0) (qa_cons (qe_op ot_sub (qv 1) qe_int) (qa_cons (qv 2) qa_nil)))) qa_nil))))))))))))))), ?_⟩
  rintro ts M Q hl ⟨p, deep, ns, rfl, hd, hp, hw, h5, q⟩
  refine ⟨rfl, cl_of ⟨p, 9, rfl, hp, by decide, by decide, fun way M1 a0 a1 p1 o1 => ?_⟩⟩
  have lay : ∀ x ∈ ns, PyData.canLay0 (.str x) = true := fun x hx => by have := hw x hx; rw [PyData.canLay0]; exact word_ok this
  have p2 : 2 ^ (deep + 1) = 2 * 2 ^ deep := by rw [Nat.pow_succ, Nat.mul_comm]
  have leafy : ∀ c M', okC c → isLeaf c → PotAt M' p → Oth p M1 M' → (endsF Q).rt (lcT c) M' := fun c M' h1 h2 h3 h4 => ⟨M', Msub.refl M', q c M' (leaf_ok h1 h2) h3 (o1.trans h4)⟩
  have kid : ∀ (M' : Mh) (Q' : TQ), deep ≠ 0 → PotAt M' p → Oth p M M' → (∀ c M2, okC c → c.ht < deep → c.wt + 1 ≤ 2 ^ deep → (∀ j ∈ c.names, j ∈ ns) → PotAt M2 p → Oth p M M2 → Q' (lcT c) M2) → F_L_card n [.adr p, .int ((deep : Int) - 1), .lst (strsT1 ns)] M' Q' := fun M' Q' h0 hp' ho' q' =>
    ⟨p, deep - 1, ns, by rw [show ((deep : Int) - 1) = ((deep - 1 : Nat) : Int) from by omega], by omega, hp', hw, h5, fun c M2 ck p2 o2 => q' c M2 ck.ok (by have := ck.ht; omega) (by have := ck.wt; rwa [show deep - 1 + 1 = deep from by omega] at this) ck.nm p2 (ho'.trans o2)⟩
  have pos : 1 ≤ 2 ^ deep := Nat.one_le_two_pow
  refine ⟨Nat.le_of_ble_eq_true rfl, ns, rfl, lay, ?_⟩
  by_cases hA : ns.isEmpty = false ∧ 6 < way
  · refine yes (by show (!ns.isEmpty) = true; rw [hA.1]; rfl) (yesd hA.2 ?_)
    have hlen : ns ≠ [] := fun z => by rw [z] at hA; exact absurd hA.1 (by decide)
    have hpos : 0 < ns.length := List.length_pos_iff.mpr hlen
    refine ⟨rfl, cl_of ⟨p, _, rfl, p1, by rw [List.length_map]; omega, by rw [List.length_map]; omega, fun j M2 j0 j1 p2 o2 => ?_⟩⟩
    rw [List.length_map] at j1
    have hj : j.toNat < ns.length := by omega
    refine ⟨_, _, .str ns[j.toNat], .inl rfl, rfl, ?_, Nat.le_of_ble_eq_true rfl, M2, Msub.refl M2, q (.as ns[j.toNat]) M2 ⟨hw _ (List.getElem_mem hj), Nat.zero_le _, by show 2 ≤ _; omega, fun i hi => ?_⟩ p2 (o1.trans o2)⟩
    · unfold tget
      rw [if_pos j0, List.getElem?_map, List.getElem?_eq_getElem hj]
      rfl
    · have hi : i ∈ [ns[j.toNat]] := hi
      rw [List.mem_singleton.mp hi]
      exact List.getElem_mem hj
  have hB : ns.isEmpty = true ∨ (ns.isEmpty = false ∧ ¬ 6 < way) := by
    cases z : ns.isEmpty with
    | true => exact .inl rfl
    | false => exact .inr ⟨rfl, fun y => hA ⟨z, y⟩⟩
  have leaf1 : ∀ Q' : TQ, (∀ c M', okC c → isLeaf c → PotAt M' p → Oth p M1 M' → Q' (lcT c) M') → F_L_leaf [.adr p] M1 Q' := fun Q' q' => ⟨p, rfl, p1, q'⟩
  rcases hB with hE | ⟨hE, h6⟩
  · refine no (by show (!ns.isEmpty) = false; rw [hE]; rfl) (no rfl ?_)
    by_cases b1 : (deep : Int) = 0
    · exact yesd b1 (yes rfl ⟨rfl, cl_of (leaf1 _ leafy)⟩)
    refine nod b1 ?_
    by_cases b2 : way < 2
    · exact yesd b2 (yes rfl ⟨rfl, cl_of (leaf1 _ leafy)⟩)
    refine nod b2 ?_
    by_cases b3 : 6 < way
    · exact yesd b3 ⟨rfl, cl_of (leaf1 _ leafy)⟩
    refine nod b3 ?_
    have h0 : deep ≠ 0 := by omega
    refine ⟨rfl, cl_of (kid M1 _ h0 p1 o1 fun x M2 xo xh xw xn p2 o2 => ?_)⟩
    by_cases w2 : way = 2
    · refine yesd w2 ⟨Nat.le_of_ble_eq_true rfl, rfl, cl_of ⟨p, 5, rfl, p2, by decide, by decide, fun j M3 j0 j1 p3 o3 => ?_⟩⟩
      have pick : ∃ m : Int, 0 ≤ m ∧ m ≤ 10080 ∧ tget [T.int 60, .int 1, .int 1440, .int 0, .int 5] j = some (.int m) := by
        have : j = 0 ∨ j = 1 ∨ j = 2 ∨ j = 3 ∨ j = 4 := by omega
        rcases this with rfl | rfl | rfl | rfl | rfl
        · exact ⟨60, by decide, by decide, rfl⟩
        · exact ⟨1, by decide, by decide, rfl⟩
        · exact ⟨1440, by decide, by decide, rfl⟩
        · exact ⟨0, by decide, by decide, rfl⟩
        · exact ⟨5, by decide, by decide, rfl⟩
      obtain ⟨m, m0, m1, em⟩ := pick
      exact ⟨_, _, _, .inl rfl, rfl, em, Nat.le_of_ble_eq_true rfl, M3, Msub.refl M3, q (.later x m) M3 ⟨⟨xo, m0, m1⟩, xh, by show 1 + x.wt + 1 ≤ _; omega, xn⟩ p3 (o2.trans o3)⟩
    refine nod w2 ?_
    by_cases w3 : way = 3
    · refine yesd w3 ⟨rfl, cl_of ⟨p, rfl, p2, fun y M3 hy p3 o3 => ?_⟩⟩
      exact ⟨Nat.le_of_ble_eq_true rfl, M3, Msub.refl M3, q (.noted x y) M3 ⟨⟨xo, hy⟩, xh, by show 1 + x.wt + 1 ≤ _; omega, xn⟩ p3 (o2.trans o3)⟩
    refine nod w3 ?_
    by_cases w4 : way = 4
    · refine yesd w4 ⟨rfl, cl_of (kid M2 _ h0 p2 o2 fun y M3 yo yh yw yn p3 o3 => ?_)⟩
      exact ⟨Nat.le_of_ble_eq_true rfl, M3, Msub.refl M3, q (.less x y) M3 ⟨⟨xo, yo⟩, by show max x.ht y.ht + 1 ≤ deep; omega, by show 1 + (x.wt + y.wt) + 1 ≤ _; omega, fun j hj => (List.mem_append.mp hj).elim (xn j) (yn j)⟩ p3 o3⟩
    refine nod w4 ?_
    by_cases w5 : way = 5
    · refine yesd w5 ⟨rfl, cl_of ⟨p, rfl, p2, fun d M3 hdd p3 o3 => ⟨rfl, cl_of (kid M3 _ h0 p3 (o2.trans o3) fun y M4 yo yh yw yn p4 o4 => ?_)⟩⟩⟩
      exact ⟨Nat.le_of_ble_eq_true rfl, M4, Msub.refl M4, q (.swap x d y) M4 ⟨⟨xo, hdd, yo⟩, by show max x.ht y.ht + 1 ≤ deep; omega, by show 1 + (x.wt + y.wt) + 1 ≤ _; omega, fun j hj => (List.mem_append.mp hj).elim (xn j) (yn j)⟩ p4 o4⟩
    refine nod w5 ⟨rfl, cl_of (kid M2 _ h0 p2 o2 fun y M3 yo yh yw yn p3 o3 => ?_)⟩
    exact ⟨Nat.le_of_ble_eq_true rfl, M3, Msub.refl M3, q (.join x y) M3 ⟨⟨xo, yo⟩, by show max x.ht y.ht + 1 ≤ deep; omega, by show 1 + (x.wt + y.wt) + 1 ≤ _; omega, fun j hj => (List.mem_append.mp hj).elim (xn j) (yn j)⟩ p3 o3⟩
  · refine yes (by show (!ns.isEmpty) = true; rw [hE]; rfl) (nod h6 ?_)
    by_cases b1 : (deep : Int) = 0
    · exact yesd b1 (yes rfl ⟨rfl, cl_of (leaf1 _ leafy)⟩)
    refine nod b1 ?_
    by_cases b2 : way < 2
    · exact yesd b2 (yes rfl ⟨rfl, cl_of (leaf1 _ leafy)⟩)
    refine nod b2 (nod h6 ?_)
    have h0 : deep ≠ 0 := by omega
    refine ⟨rfl, cl_of (kid M1 _ h0 p1 o1 fun x M2 xo xh xw xn p2 o2 => ?_)⟩
    by_cases w2 : way = 2
    · refine yesd w2 ⟨Nat.le_of_ble_eq_true rfl, rfl, cl_of ⟨p, 5, rfl, p2, by decide, by decide, fun j M3 j0 j1 p3 o3 => ?_⟩⟩
      have pick : ∃ m : Int, 0 ≤ m ∧ m ≤ 10080 ∧ tget [T.int 60, .int 1, .int 1440, .int 0, .int 5] j = some (.int m) := by
        have : j = 0 ∨ j = 1 ∨ j = 2 ∨ j = 3 ∨ j = 4 := by omega
        rcases this with rfl | rfl | rfl | rfl | rfl
        · exact ⟨60, by decide, by decide, rfl⟩
        · exact ⟨1, by decide, by decide, rfl⟩
        · exact ⟨1440, by decide, by decide, rfl⟩
        · exact ⟨0, by decide, by decide, rfl⟩
        · exact ⟨5, by decide, by decide, rfl⟩
      obtain ⟨m, m0, m1, em⟩ := pick
      exact ⟨_, _, _, .inl rfl, rfl, em, Nat.le_of_ble_eq_true rfl, M3, Msub.refl M3, q (.later x m) M3 ⟨⟨xo, m0, m1⟩, xh, by show 1 + x.wt + 1 ≤ _; omega, xn⟩ p3 (o2.trans o3)⟩
    refine nod w2 ?_
    by_cases w3 : way = 3
    · refine yesd w3 ⟨rfl, cl_of ⟨p, rfl, p2, fun y M3 hy p3 o3 => ?_⟩⟩
      exact ⟨Nat.le_of_ble_eq_true rfl, M3, Msub.refl M3, q (.noted x y) M3 ⟨⟨xo, hy⟩, xh, by show 1 + x.wt + 1 ≤ _; omega, xn⟩ p3 (o2.trans o3)⟩
    refine nod w3 ?_
    by_cases w4 : way = 4
    · refine yesd w4 ⟨rfl, cl_of (kid M2 _ h0 p2 o2 fun y M3 yo yh yw yn p3 o3 => ?_)⟩
      exact ⟨Nat.le_of_ble_eq_true rfl, M3, Msub.refl M3, q (.less x y) M3 ⟨⟨xo, yo⟩, by show max x.ht y.ht + 1 ≤ deep; omega, by show 1 + (x.wt + y.wt) + 1 ≤ _; omega, fun j hj => (List.mem_append.mp hj).elim (xn j) (yn j)⟩ p3 o3⟩
    refine nod w4 ?_
    by_cases w5 : way = 5
    · refine yesd w5 ⟨rfl, cl_of ⟨p, rfl, p2, fun d M3 hdd p3 o3 => ⟨rfl, cl_of (kid M3 _ h0 p3 (o2.trans o3) fun y M4 yo yh yw yn p4 o4 => ?_)⟩⟩⟩
      exact ⟨Nat.le_of_ble_eq_true rfl, M4, Msub.refl M4, q (.swap x d y) M4 ⟨⟨xo, hdd, yo⟩, by show max x.ht y.ht + 1 ≤ deep; omega, by show 1 + (x.wt + y.wt) + 1 ≤ _; omega, fun j hj => (List.mem_append.mp hj).elim (xn j) (yn j)⟩ p4 o4⟩
    refine nod w5 ⟨rfl, cl_of (kid M2 _ h0 p2 o2 fun y M3 yo yh yw yn p3 o3 => ?_)⟩
    exact ⟨Nat.le_of_ble_eq_true rfl, M3, Msub.refl M3, q (.join x y) M3 ⟨⟨xo, yo⟩, by show max x.ht y.ht + 1 ≤ deep; omega, by show 1 + (x.wt + y.wt) + 1 ≤ _; omega, fun j hj => (List.mem_append.mp hj).elim (xn j) (yn j)⟩ p3 o3⟩
end
end Tr

set_option Elab.async false
set_option linter.all false
set_option maxRecDepth 100000
set_option maxHeartbeats 4000000
namespace Tr
open PySem PySem.Spec L2


section
variable {P : Program} {w : World} {K : PySem.W.Frag} {mg : Str → Option Value} {base : Heap}

end
section
variable {P : Program} {w : World} {K : PySem.W.Frag} {mg : Str → Option Value} {base : Heap}
theorem L_card_all (c : Fx K mg) : ∀ n, Kp P w K mg base ("_law_card", none) (4 + n) 3 (F_L_card n)
  | 0 => kp_vac (d := d_L_card) (ps := ["_law_pot_here", "_law_deep", "_law_names"]) c M_L_card (fun FD => FD.bindsN fun _ _ _ _ _ _ us hl => match us, hl with | [_, _, _], _ => rfl) fun ts M Q ⟨_, _, _, _, h, _⟩ => Nat.not_lt_zero _ h
  | n + 1 => kp_L_card c (L_card_all c n)
end
def lcsT (cs : List LC) : List T := cs.map lcT
section
variable {P : Program} {w : World} {K : PySem.W.Frag} {mg : Str → Option Value} {base : Heap}

def F_L_inner : TSpec := fun ts M Q => ∃ d, ts = [lcT d] ∧ Q (.lst (lcsT d.kids)) M
theorem kp_L_inner (c : Fx K mg) : Kp P w K mg base ("_law_inner", none) 1 1 (F_L_inner) := by
  refine kp_def (d := d_L_inner) c M_L_inner S_L_inner rfl (fun FD => FD.bindsN fun _ _ _ _ _ _ us hl => match us, hl with | [_], _ => rfl) fun cdv A outer s H E hr => ⟨_, (
    (qss_cons (qs_if (qt_cmp ot_in (qe_ix it_seqx (qv 0) qe_int) (qe_tup (qa_cons qe_str (qa_cons qe_str qa_nil))))
      (qss_one (qs_ret (qe_lst (qa_cons (qe_ix it_seqx (qv 0) qe_int) qa_nil))))
      qss_nil)
      (qss_cons (qs_if (qt_cmp ot_in (qe_ix it_seqx (qv 0) qe_int) (qe_tup (qa_cons qe_str (qa_cons qe_str qa_nil))))
      (qss_one (qs_ret (qe_lst (qa_cons (qe_ix it_seqx (qv 0) qe_int) (qa_cons (qe_ix it_seqx (qv 0) qe_int) qa_nil)))))
      qss_nil)
      (qss_cons (qs_if (qt_cmp ot_eq (qe_ix it_seqx (qv 0) qe_int) qe_str)
      (qss_one (qs_ret (qe_lst (qa_cons (qe_ix it_seqx (qv 0) qe_int) (qa_cons (qe_ix it_seqx (qv 0) qe_int) qa_nil)))))
      qss_nil)
      (qss_one (qs_ret (qe_lst qa_nil))))))), ?_⟩
  rintro ts M Q hl ⟨d, rfl, q⟩
  cases d with
  | later a m => exact ⟨_, _, _, .inr rfl, rfl, rfl, Nat.le_of_ble_eq_true rfl, rfl, yes (by decide) ⟨_, _, _, .inr rfl, rfl, rfl, Nat.le_of_ble_eq_true rfl, M, Msub.refl M, q⟩⟩
  | noted a m => exact ⟨_, _, _, .inr rfl, rfl, rfl, Nat.le_of_ble_eq_true rfl, rfl, yes (by decide) ⟨_, _, _, .inr rfl, rfl, rfl, Nat.le_of_ble_eq_true rfl, M, Msub.refl M, q⟩⟩
  | less a b => exact ⟨_, _, _, .inr rfl, rfl, rfl, Nat.le_of_ble_eq_true rfl, rfl, no (by decide) ⟨_, _, _, .inr rfl, rfl, rfl, Nat.le_of_ble_eq_true rfl, rfl, yes (by decide) ⟨_, _, _, .inr rfl, rfl, rfl, _, _, _, .inr rfl, rfl, rfl, Nat.le_of_ble_eq_true rfl, M, Msub.refl M, q⟩⟩⟩
  | join a b => exact ⟨_, _, _, .inr rfl, rfl, rfl, Nat.le_of_ble_eq_true rfl, rfl, no (by decide) ⟨_, _, _, .inr rfl, rfl, rfl, Nat.le_of_ble_eq_true rfl, rfl, yes (by decide) ⟨_, _, _, .inr rfl, rfl, rfl, _, _, _, .inr rfl, rfl, rfl, Nat.le_of_ble_eq_true rfl, M, Msub.refl M, q⟩⟩⟩
  | swap a d b => exact ⟨_, _, _, .inr rfl, rfl, rfl, Nat.le_of_ble_eq_true rfl, rfl, no (by decide) ⟨_, _, _, .inr rfl, rfl, rfl, Nat.le_of_ble_eq_true rfl, rfl, no (by decide) ⟨_, _, _, .inr rfl, rfl, rfl, yes (by decide) ⟨_, _, _, .inr rfl, rfl, rfl, _, _, _, .inr rfl, rfl, rfl, Nat.le_of_ble_eq_true rfl, M, Msub.refl M, q⟩⟩⟩⟩
  | once s l => exact ⟨_, _, _, .inr rfl, rfl, rfl, Nat.le_of_ble_eq_true rfl, rfl, no (by decide) ⟨_, _, _, .inr rfl, rfl, rfl, Nat.le_of_ble_eq_true rfl, rfl, no (by decide) ⟨_, _, _, .inr rfl, rfl, rfl, no (by decide) ⟨Nat.le_of_ble_eq_true rfl, M, Msub.refl M, q⟩⟩⟩⟩
  | every d s l => exact ⟨_, _, _, .inr rfl, rfl, rfl, Nat.le_of_ble_eq_true rfl, rfl, no (by decide) ⟨_, _, _, .inr rfl, rfl, rfl, Nat.le_of_ble_eq_true rfl, rfl, no (by decide) ⟨_, _, _, .inr rfl, rfl, rfl, no (by decide) ⟨Nat.le_of_ble_eq_true rfl, M, Msub.refl M, q⟩⟩⟩⟩
  | as n => exact ⟨_, _, _, .inr rfl, rfl, rfl, Nat.le_of_ble_eq_true rfl, rfl, no (by decide) ⟨_, _, _, .inr rfl, rfl, rfl, Nat.le_of_ble_eq_true rfl, rfl, no (by decide) ⟨_, _, _, .inr rfl, rfl, rfl, no (by decide) ⟨Nat.le_of_ble_eq_true rfl, M, Msub.refl M, q⟩⟩⟩⟩
def F_L_on (K : PySem.W.Frag) : TSpec := fun ts M Q => ∃ d : LD, ts = [dayL d] ∧ d.Ok ∧ Q (daysT K d) M
theorem kp_L_on (c : Fx K mg) : Kp P w K mg base ("_law_on", none) 7 1 (F_L_on K) := by
  have k_Days_init := kp_Days_init (P := P) (w := w) (base := base) c
  have k_Ring_init := kp_Ring_init (P := P) (w := w) (base := base) c
  refine kp_def (d := d_L_on) c M_L_on S_L_on rfl (fun FD => FD.bindsN fun _ _ _ _ _ _ us hl => match us, hl with | [_], _ => rfl) fun cdv A outer s H E hr => ⟨_, (
    (qss_one (qs_ret (qe_obj rfl c.k_Days (k_Days_init) (hr.mono (by omega)) c.g_Days (qa_cons (qe_obj rfl c.k_Ring (k_Ring_init) (hr.mono (by omega)) c.g_Ring (qa_cons (qe_ix it_seqx (qv 0) qe_int) qa_nil)) (qa_cons (qe_ix it_seqx (qv 0) qe_int) (qa_cons (qe_ix it_seqx (qv 0) qe_int) (qa_cons (qe_callTy ct_list c.b_list (qa_cons (qe_ix it_seqx (qv 0) qe_int) qa_nil)) (qa_cons (qe_callTy ct_list c.b_list (qa_cons (qe_ix it_seqx (qv 0) qe_int) qa_nil)) qa_nil))))))))), ?_⟩
  rintro ts M Q hl ⟨d, rfl, ok, q⟩
  refine ⟨_, _, _, .inr rfl, rfl, rfl, rfl, _, ⟨d.bits, rfl, ok.bits, rfl⟩, ?_⟩
  refine ⟨_, _, _, .inr rfl, rfl, rfl, _, _, _, .inr rfl, rfl, rfl, _, _, _, .inr rfl, rfl, rfl, _, _, _, .inr rfl, rfl, rfl, rfl, _, ⟨d, ok, rfl, rfl⟩, M, Msub.refl M, q⟩
end
end Tr

set_option Elab.async false
set_option linter.all false
set_option maxRecDepth 100000
set_option maxHeartbeats 4000000
namespace Tr
open PySem PySem.Spec L2


section
variable {P : Program} {w : World} {K : PySem.W.Frag} {mg : Str → Option Value} {base : Heap}

theorem kids_okC {d : LC} (h : okC d) : ∀ x ∈ d.kids, okC x := by
  intro x hx
  cases d with
  | once s l => cases hx
  | every d s l => cases hx
  | as m => cases hx
  | later a m => rw [List.mem_singleton.mp hx]; exact h.1
  | noted a v => rw [List.mem_singleton.mp hx]; exact h.1
  | less a b =>
    rcases List.mem_cons.mp hx with rfl | hx
    · exact h.1
    · rw [List.mem_singleton.mp hx]; exact h.2
  | swap a d b =>
    rcases List.mem_cons.mp hx with rfl | hx
    · exact h.1
    · rw [List.mem_singleton.mp hx]; exact h.2.2
  | join a b =>
    rcases List.mem_cons.mp hx with rfl | hx
    · exact h.1
    · rw [List.mem_singleton.mp hx]; exact h.2
theorem kids_few (d : LC) : d.kids.length ≤ 2 := by cases d <;> exact Nat.le_of_ble_eq_true rfl
def F_L_made (K : PySem.W.Frag) (n : Nat) : TSpec := fun ts M Q => ∃ d, ts = [lcT d] ∧ d.ht < n ∧ okC d ∧ d.wt ≤ 60 ∧ Q (pcT K d) M
theorem kp_L_made (c : Fx K mg) {n : Nat} (k_L_made : Kp P w K mg base ("_law_made", none) (8 + n) 1 (F_L_made K n)) : Kp P w K mg base ("_law_made", none) (8 + n + 1) 1 (F_L_made K (n + 1)) := by
  have k_As_init := kp_As_init (P := P) (w := w) (base := base) c
  have k_At_init := kp_At_init (P := P) (w := w) (base := base) c
  have k_Every_init := kp_Every_init (P := P) (w := w) (base := base) c
  have k_Join_init := kp_Join_init (P := P) (w := w) (base := base) c
  have k_L_inner := kp_L_inner (P := P) (w := w) (base := base) c
  have k_L_on := kp_L_on (P := P) (w := w) (base := base) c
  have k_Later_init := kp_Later_init (P := P) (w := w) (base := base) c
  have k_Less_init := kp_Less_init (P := P) (w := w) (base := base) c
  have k_Noted_init := kp_Noted_init (P := P) (w := w) (base := base) c
  have k_Once_init := kp_Once_init (P := P) (w := w) (base := base) c
  have k_Spread_init := kp_Spread_init (P := P) (w := w) (base := base) c
  have k_Swap_init := kp_Swap_init (P := P) (w := w) (base := base) c
  refine kp_def (d := d_L_made) c M_L_made S_L_made rfl (fun FD => FD.bindsN fun _ _ _ _ _ _ us hl => match us, hl with | [_], _ => rfl) fun cdv A outer s H E hr => ⟨_, (
    (qss_cons (qs_setLc1 1 2 rfl S_L_made.nd (qi_lst (qe_fn (k_L_inner) (hr.mono (by omega)) c.g_law_inner (qa_cons (qv 0) qa_nil))) (blkOk_by (by rfl)) (fun s H C cl fp => qts_nil) (fun s H C cl fp => (qe_fn (k_L_made) (hr.mono (by omega)) c.g_law_made (qa_cons (qv 1) qa_nil))))
      (qss_cons (qs_if (qt_cmp ot_eq (qe_ix it_seqx (qv 0) qe_int) qe_str)
      (qss_one (qs_ret (qe_obj rfl c.k_Once (k_Once_init) (hr.mono (by omega)) c.g_Once (qa_cons (qe_obj rfl c.k_Spread (k_Spread_init) (hr.mono (by omega)) c.g_Spread (qa_cons (qe_lc1 3 rfl S_L_made.nd (qi_lst (qe_ix it_seqx (qv 0) qe_int)) (blkOk_by (by rfl)) (fun s H C cl fp => qts_nil) (fun s H C cl fp => (qe_obj rfl c.k_At (k_At_init) (hr.mono (by omega)) c.g_At (qa_cons (qv 3) qa_nil)))) qa_nil)) (qa_cons (qe_callTy ct_list c.b_list (qa_cons (qe_ix it_seqx (qv 0) qe_int) qa_nil)) qa_nil)))))
      qss_nil)
      (qss_cons (qs_if (qt_cmp ot_eq (qe_ix it_seqx (qv 0) qe_int) qe_str)
      (qss_one (qs_ret (qe_obj rfl c.k_Every (k_Every_init) (hr.mono (by omega)) c.g_Every (qa_cons (qe_fn (k_L_on) (hr.mono (by omega)) c.g_law_on (qa_cons (qe_ix it_seqx (qv 0) qe_int) qa_nil)) (qa_cons (qe_obj rfl c.k_Spread (k_Spread_init) (hr.mono (by omega)) c.g_Spread (qa_cons (qe_lc1 3 rfl S_L_made.nd (qi_lst (qe_ix it_seqx (qv 0) qe_int)) (blkOk_by (by rfl)) (fun s H C cl fp => qts_nil) (fun s H C cl fp => (qe_obj rfl c.k_At (k_At_init) (hr.mono (by omega)) c.g_At (qa_cons (qv 3) qa_nil)))) qa_nil)) (qa_cons (qe_callTy ct_list c.b_list (qa_cons (qe_ix it_seqx (qv 0) qe_int) qa_nil)) qa_nil))))))
      qss_nil)
      (qss_cons (qs_if (qt_cmp ot_eq (qe_ix it_seqx (qv 0) qe_int) qe_str)
      (qss_one (qs_ret (qe_obj rfl c.k_As (k_As_init) (hr.mono (by omega)) c.g_As (qa_cons (qe_ix it_seqx (qv 0) qe_int) qa_nil))))
      qss_nil)
      (qss_cons (qs_if (qt_cmp ot_eq (qe_ix it_seqx (qv 0) qe_int) qe_str)
      (qss_one (qs_ret (qe_obj rfl c.k_Later (k_Later_init) (hr.mono (by omega)) c.g_Later (qa_cons (qe_ix it_seqx (qv 2) qe_int) (qa_cons (qe_ix it_seqx (qv 0) qe_int) qa_nil)))))
      qss_nil)
      (qss_cons (qs_if (qt_cmp ot_eq (qe_ix it_seqx (qv 0) qe_int) qe_str)
      (qss_one (qs_ret (qe_obj rfl c.k_Noted (k_Noted_init) (hr.mono (by omega)) c.g_Noted (qa_cons (qe_ix it_seqx (qv 2) qe_int) (qa_cons (qe_ix it_seqx (qv 0) qe_int) qa_nil)))))
      qss_nil)
      (qss_cons (qs_if (qt_cmp ot_eq (qe_ix it_seqx (qv 0) qe_int) qe_str)
      (qss_one (qs_ret (qe_obj rfl c.k_Less (k_Less_init) (hr.mono (by omega)) c.g_Less (qa_cons (qe_ix it_seqx (qv 2) qe_int) (qa_cons (qe_ix it_seqx (qv 2) qe_int) qa_nil)))))
      qss_nil)
      (qss_cons (qs_if (qt_cmp ot_eq (qe_ix it_seqx (qv 0) qe_int) qe_str)
      (qss_one (qs_ret (qe_obj rfl c.k_Swap (k_Swap_init) (hr.mono (by omega)) c.g_Swap (qa_cons (qe_ix it_seqx (qv 2) qe_int) (qa_cons (qe_fn (k_L_on) (hr.mono (by omega)) c.g_law_on (qa_cons (qe_ix it_seqx (qv 0) qe_int) qa_nil)) (qa_cons (qe_ix it_seqx (qv 2) qe_int) qa_nil))))))
      qss_nil)
      (qss_one (qs_ret (qe_obj rfl c.k_Join (k_Join_init) (hr.mono (by omega)) c.g_Join (qa_cons (qv 2) qa_nil))))))))))))), ?_⟩
  rintro ts M Q hl ⟨d, rfl, hh, ok, hw, q⟩
  refine ⟨rfl, cl_of ⟨d, rfl, ?_⟩⟩
  have kf := kids_few d
  refine lc_get (ts := lcsT d.kids) (M1 := M) (pcsT K d.kids) kT (by unfold lcsT; rw [List.length_map]; omega) (by unfold pcsT lcsT; rw [List.length_map, List.length_map]) (fun k t' et => ?_) ?_
  · unfold lcsT at et
    rw [List.getElem?_map] at et
    obtain ⟨x, hx, rfl⟩ := Option.map_eq_some_iff.mp et
    have mx := List.mem_of_getElem? hx
    have wx := kids_wt x mx
    refine ⟨_, pcT K x, rfl, by unfold pcsT; rw [List.getElem?_map, hx]; rfl, fun Q' q' => ⟨rfl, cl_of ⟨x, rfl, kids_ht hh x mx, kids_okC ok x mx, by omega, q'⟩⟩⟩
  have ats : ∀ (s : List Int), Spots s → ∀ (x1 x2 x3 x4 : Option T) (Q' : TQ), Q' (.lst (atsT K s)) M → lcI [3] (bd1 3) wYes (wObj (He.ga K "At") 2 R_At (wCons (wVar 3) wNil)) [x1, x2, x3, x4] (intsT s) keepT M Q' := fun s sp x1 x2 x3 x4 Q' q' => by
    refine lc_get (ts := intsT s) (M1 := M) (atsT K s) kT (by rw [List.length_map]; have := sp.few; omega) (by unfold atsT; rw [List.length_map, List.length_map]) (fun k t' et => ?_) q'
    rw [List.getElem?_map] at et
    obtain ⟨x, hx, rfl⟩ := Option.map_eq_some_iff.mp et
    exact ⟨_, atT K x, rfl, by unfold atsT; rw [List.getElem?_map, hx]; rfl, fun Q' q' => ⟨rfl, _, ⟨x, rfl, sp.nn x (List.mem_of_getElem? hx), rfl⟩, q'⟩⟩
  cases d with
  | later a m => exact ⟨_, _, _, .inr rfl, rfl, rfl, no (by decide) ⟨_, _, _, .inr rfl, rfl, rfl, no (by decide) ⟨_, _, _, .inr rfl, rfl, rfl, no (by decide) ⟨_, _, _, .inr rfl, rfl, rfl, yes (by decide) ⟨_, _, _, .inl rfl, rfl, rfl, _, _, _, .inr rfl, rfl, rfl, rfl, _, ⟨a, m, rfl, ok.2.1, ok.2.2, hw, rfl⟩, M, Msub.refl M, q⟩⟩⟩⟩⟩
  | noted a v => exact ⟨_, _, _, .inr rfl, rfl, rfl, no (by decide) ⟨_, _, _, .inr rfl, rfl, rfl, no (by decide) ⟨_, _, _, .inr rfl, rfl, rfl, no (by decide) ⟨_, _, _, .inr rfl, rfl, rfl, no (by decide) ⟨_, _, _, .inr rfl, rfl, rfl, yes (by decide) ⟨_, _, _, .inl rfl, rfl, rfl, _, _, _, .inr rfl, rfl, rfl, rfl, _, ⟨a, v, rfl, ok.2, hw, rfl⟩, M, Msub.refl M, q⟩⟩⟩⟩⟩⟩
  | less a b => exact ⟨_, _, _, .inr rfl, rfl, rfl, no (by decide) ⟨_, _, _, .inr rfl, rfl, rfl, no (by decide) ⟨_, _, _, .inr rfl, rfl, rfl, no (by decide) ⟨_, _, _, .inr rfl, rfl, rfl, no (by decide) ⟨_, _, _, .inr rfl, rfl, rfl, no (by decide) ⟨_, _, _, .inr rfl, rfl, rfl, yes (by decide) ⟨_, _, _, .inl rfl, rfl, rfl, _, _, _, .inl rfl, rfl, rfl, rfl, _, ⟨a, b, rfl, hw, rfl⟩, M, Msub.refl M, q⟩⟩⟩⟩⟩⟩⟩
  | swap a d b => exact ⟨_, _, _, .inr rfl, rfl, rfl, no (by decide) ⟨_, _, _, .inr rfl, rfl, rfl, no (by decide) ⟨_, _, _, .inr rfl, rfl, rfl, no (by decide) ⟨_, _, _, .inr rfl, rfl, rfl, no (by decide) ⟨_, _, _, .inr rfl, rfl, rfl, no (by decide) ⟨_, _, _, .inr rfl, rfl, rfl, no (by decide) ⟨_, _, _, .inr rfl, rfl, rfl, yes (by decide) ⟨_, _, _, .inl rfl, rfl, rfl, _, _, _, .inr rfl, rfl, rfl, rfl, cl_of ⟨d, rfl, ok.2.1, _, _, _, .inl rfl, rfl, rfl, rfl, _, ⟨a, d, b, rfl, hw, rfl⟩, M, Msub.refl M, q⟩⟩⟩⟩⟩⟩⟩⟩⟩
  | join a b => exact ⟨_, _, _, .inr rfl, rfl, rfl, no (by decide) ⟨_, _, _, .inr rfl, rfl, rfl, no (by decide) ⟨_, _, _, .inr rfl, rfl, rfl, no (by decide) ⟨_, _, _, .inr rfl, rfl, rfl, no (by decide) ⟨_, _, _, .inr rfl, rfl, rfl, no (by decide) ⟨_, _, _, .inr rfl, rfl, rfl, no (by decide) ⟨_, _, _, .inr rfl, rfl, rfl, no (by decide) ⟨rfl, _, ⟨a, b, rfl, hw, rfl⟩, M, Msub.refl M, q⟩⟩⟩⟩⟩⟩⟩⟩
  | as m => exact ⟨_, _, _, .inr rfl, rfl, rfl, no (by decide) ⟨_, _, _, .inr rfl, rfl, rfl, no (by decide) ⟨_, _, _, .inr rfl, rfl, rfl, yes (by decide) ⟨_, _, _, .inr rfl, rfl, rfl, rfl, _, ⟨m, rfl, ok, rfl⟩, M, Msub.refl M, q⟩⟩⟩⟩
  | once s l =>
    obtain ⟨sp, ne, lot⟩ := ok
    refine ⟨_, _, _, .inr rfl, rfl, rfl, yes (by decide) ⟨_, _, _, .inr rfl, rfl, rfl, ?_⟩⟩
    refine ats s sp _ _ _ _ _ ?_
    exact ⟨rfl, _, ⟨s, rfl, sp, rfl⟩, _, _, _, .inr rfl, rfl, rfl, rfl, _, ⟨s, l, rfl, sp, lot, rfl⟩, M, Msub.refl M, q⟩
  | every d s l =>
    obtain ⟨dok, sp, ne, few, lt, lot⟩ := ok
    refine ⟨_, _, _, .inr rfl, rfl, rfl, no (by decide) ⟨_, _, _, .inr rfl, rfl, rfl, yes (by decide) ⟨_, _, _, .inr rfl, rfl, rfl, rfl, cl_of ⟨d, rfl, dok, _, _, _, .inr rfl, rfl, rfl, ?_⟩⟩⟩⟩
    refine ats s sp _ _ _ _ _ ?_
    exact ⟨rfl, _, ⟨s, rfl, sp, rfl⟩, _, _, _, .inr rfl, rfl, rfl, rfl, _, ⟨d, s, l, rfl, dok, sp, lt, lot, rfl⟩, M, Msub.refl M, q⟩
def F_L_names_in (n : Nat) : TSpec := fun ts M Q => ∃ d, ts = [lcT d] ∧ d.ht < n ∧ d.wt ≤ 60 ∧ Q (.lst (strsT1 d.names)) M
theorem kp_L_names_in (c : Fx K mg) {n : Nat} (k_L_names_in : Kp P w K mg base ("_law_names_in", none) (1 + n) 1 (F_L_names_in n)) : Kp P w K mg base ("_law_names_in", none) (1 + n + 1) 1 (F_L_names_in (n + 1)) := by
  have k_L_inner := kp_L_inner (P := P) (w := w) (base := base) c
  refine kp_def (d := d_L_names_in) c M_L_names_in S_L_names_in rfl (fun FD => FD.bindsN fun _ _ _ _ _ _ us hl => match us, hl with | [_], _ => rfl) fun cdv A outer s H E hr => ⟨_, (
    (qss_cons (qs_if (qt_cmp ot_eq (qe_ix it_seqx (qv 0) qe_int) qe_str)
      (qss_one (qs_ret (qe_lst (qa_cons (qe_ix it_seqx (qv 0) qe_int) qa_nil))))
      qss_nil)
      (qss_cons (qs_set 1 S_L_names_in.nd (qe_lst qa_nil))
      (qss_cons (qs_for PassesOwn.never rfl (qi_lst (qe_fn (k_L_inner) (hr.mono (by omega)) c.g_law_inner (qa_cons (qv 0) qa_nil))) (qg_name 2 S_L_names_in.nd)
      (qss_one (qs_set 1 S_L_names_in.nd (qe_op ot_catL (qv 1) (qe_fn (k_L_names_in) (hr.mono (by omega)) c.g_law_names_in (qa_cons (qv 2) qa_nil))))))
      (qss_one (qs_ret (qv 1))))))), ?_⟩
  rintro ts M Q hl ⟨d, rfl, hh, hw, q⟩
  have hn := names_len d
  cases hk : d.kd.isNone with
  | true =>
    cases d with
    | as m => exact ⟨_, _, _, .inr rfl, rfl, rfl, yes (by decide) ⟨_, _, _, .inr rfl, rfl, rfl, Nat.le_of_ble_eq_true rfl, M, Msub.refl M, q⟩⟩
    | _ => cases hk
  | false =>
    have h0 : ∃ (xs : List T) (nm : Str), lcT d = .tup (.str nm :: xs) ∧ nm ≠ "as" := by
      cases d with
      | as m => cases hk
      | once s l => exact ⟨_, _, rfl, by decide⟩
      | every d s l => exact ⟨_, _, rfl, by decide⟩
      | later a m => exact ⟨_, _, rfl, by decide⟩
      | noted a m => exact ⟨_, _, rfl, by decide⟩
      | less a b => exact ⟨_, _, rfl, by decide⟩
      | swap a d b => exact ⟨_, _, rfl, by decide⟩
      | join a b => exact ⟨_, _, rfl, by decide⟩
    obtain ⟨xs, nm, e0, e1⟩ := h0
    refine ⟨_, _, .str nm, .inr (by rw [e0]; rfl), rfl, rfl, nod e1 ⟨Nat.le_of_ble_eq_true rfl, rfl, cl_of ⟨d, rfl, ?_⟩⟩⟩
    refine ⟨fun k s' M' => M' = M ∧ ∃ o, s' = [some (lcT d), some (.lst (strsT1 ((d.kids.take k).flatMap LC.names))), o], ⟨rfl, none, rfl⟩, fun _ _ _ _ => kT, ?_, ?_⟩
    · rintro k s' M' t et ⟨rfl, o, rfl⟩
      unfold lcsT at et
      rw [List.getElem?_map] at et
      obtain ⟨x, hx, rfl⟩ := Option.map_eq_some_iff.mp et
      have mx := List.mem_of_getElem? hx
      have wx := kids_wt x mx
      have nx := names_len x
      have tk := flat_take LC.names d.kids k
      rw [← names_kids hk] at tk
      refine ⟨rfl, cl_of ⟨x, rfl, kids_ht hh x mx, by omega, ?_⟩⟩
      refine ⟨by rw [List.length_map, List.length_map]; omega, rfl, some (lcT x), ?_⟩
      rw [take_next hx, List.flatMap_append, List.flatMap_cons, List.flatMap_nil, List.append_nil, show strsT1 (((d.kids.take k).flatMap LC.names) ++ x.names) = strsT1 ((d.kids.take k).flatMap LC.names) ++ strsT1 x.names from List.map_append]
      rfl
    · rintro s' M' ⟨rfl, o, rfl⟩
      refine ⟨M', Msub.refl M', ?_⟩
      rw [show (lcsT d.kids).length = d.kids.length from List.length_map _, List.take_length, ← names_kids hk]
      exact q
end
section
variable {P : Program} {w : World} {K : PySem.W.Frag} {mg : Str → Option Value} {base : Heap}
theorem L_made_all (c : Fx K mg) : ∀ n, Kp P w K mg base ("_law_made", none) (8 + n) 1 (F_L_made K n)
  | 0 => kp_vac (d := d_L_made) (ps := ["_law_card_here"]) c M_L_made (fun FD => FD.bindsN fun _ _ _ _ _ _ us hl => match us, hl with | [_], _ => rfl) fun ts M Q ⟨_, _, h, _⟩ => Nat.not_lt_zero _ h
  | n + 1 => kp_L_made c (L_made_all c n)
theorem L_names_all (c : Fx K mg) : ∀ n, Kp P w K mg base ("_law_names_in", none) (1 + n) 1 (F_L_names_in n)
  | 0 => kp_vac (d := d_L_names_in) (ps := ["_law_card_here"]) c M_L_names_in (fun FD => FD.bindsN fun _ _ _ _ _ _ us hl => match us, hl with | [_], _ => rfl) fun ts M Q ⟨_, _, h, _⟩ => Nat.not_lt_zero _ h
  | n + 1 => kp_L_names_in c (L_names_all c n)
end
/-- the law's lines -/
def llT (L : Ln) : List (Key × T) := L.map fun q => (Sum.inr q.1, lcT q.2)
theorem kget_ll (k : Str) : ∀ L : Ln, kget (.inr k) (llT L) = (lget k L).map lcT
  | [] => rfl
  | (i, u) :: r => by
    show (if (Sum.inr i : Key) = .inr k then some (lcT u) else kget (.inr k) (llT r)) = (if i = k then some u else lget k r).map lcT
    by_cases h : i = k
    · rw [if_pos h, if_pos (by rw [h])]; rfl
    · rw [if_neg h, if_neg fun z => h (Sum.inr.inj z), kget_ll k r]
theorem rebuild_sum {d : LC} (hk : d.kd.isNone = false) : ∀ {zs : List LC}, zs.length = d.kids.length → (rebuild d zs).wt = 1 + (zs.map LC.wt).sum := by
  intro zs hl
  cases d with
  | as m => cases hk
  | once s l => match zs, hl with | [], _ => rfl
  | every d s l => match zs, hl with | [], _ => rfl
  | later a m => match zs, hl with | [x], _ => simp [rebuild, LC.wt]
  | noted a m => match zs, hl with | [x], _ => simp [rebuild, LC.wt]
  | less a b => match zs, hl with | [x, y], _ => simp [rebuild, LC.wt]
  | swap a d b => match zs, hl with | [x, y], _ => simp [rebuild, LC.wt]
  | join a b => match zs, hl with | [x, y], _ => simp [rebuild, LC.wt]
theorem tag_of {d : LC} (hk : d.kd.isNone = false) : ∃ (xs : List T) (nm : Str), lcT d = .tup (.str nm :: xs) ∧ nm ≠ "as" := by
  cases d with
  | as m => cases hk
  | once s l => exact ⟨_, _, rfl, by decide⟩
  | every d s l => exact ⟨_, _, rfl, by decide⟩
  | later a m => exact ⟨_, _, rfl, by decide⟩
  | noted a m => exact ⟨_, _, rfl, by decide⟩
  | less a b => exact ⟨_, _, rfl, by decide⟩
  | swap a d b => exact ⟨_, _, rfl, by decide⟩
  | join a b => exact ⟨_, _, rfl, by decide⟩
theorem kid_ints (zs : List LC) : zs.map (fun z => T.int (z.wt : Nat)) = (zs.map fun z => ((z.wt : Nat) : Int)).map T.int := by
  rw [List.map_map]; rfl
section
variable {P : Program} {w : World} {K : PySem.W.Frag} {mg : Str → Option Value} {base : Heap}

def F_L_size (L : Ln) (n : Nat) : TSpec := fun ts M Q => ∃ a lk d z, ts = [lcT d, .adr a] ∧ M a = some (.dic lk (llT L)) ∧ exp L n d = some z ∧ Q (.int (z.wt : Nat)) M
theorem kp_L_size (c : Fx K mg) {L : Ln} {n : Nat} (k_L_size : Kp P w K mg base ("_law_size", none) (2 + n) 2 (F_L_size L n)) : Kp P w K mg base ("_law_size", none) (2 + n + 1) 2 (F_L_size L (n + 1)) := by
  have k_L_inner := kp_L_inner (P := P) (w := w) (base := base) c
  refine kp_def (d := d_L_size) c M_L_size S_L_size rfl (fun FD => FD.bindsN fun _ _ _ _ _ _ us hl => match us, hl with | [_, _], _ => rfl) fun cdv A outer s H E hr => ⟨_, (
    (qss_cons (qs_if (qt_cmp ot_eq (qe_ix it_seqx (qv 0) qe_int) qe_str)
      (qss_one (qs_ret (qe_fn (k_L_size) (hr.mono (by omega)) c.g_law_size (qa_cons (qe_dgetx (Tr.Room.u1 hr) (qv 1) (qe_ix it_seqx (qv 0) qe_int)) (qa_cons (qv 1) qa_nil)))))
      qss_nil)
      (qss_one (qs_ret (qe_op ot_add qe_int (qe_callB (ct_sum rfl) c.b_sum (qa_cons (qe_lc1 2 rfl S_L_size.nd (qi_lst (qe_fn (k_L_inner) (hr.mono (by omega)) c.g_law_inner (qa_cons (qv 0) qa_nil))) (blkOk_by (by rfl)) (fun s H C cl fp => qts_nil) (fun s H C cl fp => (qe_fn (k_L_size) (hr.mono (by omega)) c.g_law_size (qa_cons (qv 2) (qa_cons (qv 1) qa_nil))))) qa_nil))))))), ?_⟩
  rintro ts M Q hl ⟨a, lk, d, z, rfl, ha, hz, q⟩
  cases hk : d.kd.isNone with
  | true =>
    cases d with
    | as m =>
      have hz : (lget m L).bind (exp L n) = some z := hz
      cases e : lget m L with
      | none => rw [e] at hz; cases hz
      | some cc =>
        rw [e] at hz
        exact ⟨_, _, _, .inr rfl, rfl, rfl, yes (by decide) ⟨_, _, _, .inr rfl, rfl, rfl, lk, _, _, ha, rfl, lcT cc, by rw [kget_ll, e]; rfl, rfl, cl_of ⟨a, lk, cc, z, rfl, ha, hz, M, Msub.refl M, q⟩⟩⟩
    | _ => cases hk
  | false =>
    obtain ⟨xs, nm, e0, e1⟩ := tag_of hk
    obtain ⟨zs, hlen, ez, kid⟩ := exp_kids hk hz
    have kf := kids_few d
    refine ⟨_, _, .str nm, .inr (by rw [e0]; rfl), rfl, rfl, nod e1 ?_⟩
    refine ⟨rfl, cl_of ⟨d, rfl, ?_⟩⟩
    refine lc_get (ts := lcsT d.kids) (M1 := M) (zs.map fun z => T.int (z.wt : Nat)) kT (by unfold lcsT; rw [List.length_map]; omega) (by unfold lcsT; rw [List.length_map, List.length_map, hlen]) (fun k t' et => ?_) ?_
    · unfold lcsT at et
      rw [List.getElem?_map] at et
      obtain ⟨x, hx, rfl⟩ := Option.map_eq_some_iff.mp et
      obtain ⟨y, hy, ey, _⟩ := kid k x hx
      exact ⟨_, .int (y.wt : Nat), rfl, by rw [List.getElem?_map, hy]; rfl, fun Q' q' => ⟨rfl, cl_of ⟨a, lk, x, y, rfl, ha, ey, q'⟩⟩⟩
    · refine ⟨_, kid_ints zs, M, Msub.refl M, ?_⟩
      dsimp only
      rw [wt_sum, ← show (((1 + (zs.map LC.wt).sum : Nat)) : Int) = 1 + (((zs.map LC.wt).sum : Nat) : Int) from by omega, ← rebuild_sum hk hlen, ← ez]
      exact q
end
section
variable {P : Program} {w : World} {K : PySem.W.Frag} {mg : Str → Option Value} {base : Heap}
theorem L_size_all (c : Fx K mg) (L : Ln) : ∀ n, Kp P w K mg base ("_law_size", none) (2 + n) 2 (F_L_size L n)
  | 0 => kp_vac (d := d_L_size) (ps := ["_law_card_here", "_law_lines"]) c M_L_size (fun FD => FD.bindsN fun _ _ _ _ _ _ us hl => match us, hl with | [_, _], _ => rfl) fun ts M Q ⟨_, _, _, _, _, _, h, _⟩ => by cases h
  | n + 1 => kp_L_size c (L_size_all c L n)
end
section
variable {P : Program} {w : World} {K : PySem.W.Frag} {mg : Str → Option Value} {base : Heap}

end
end Tr

set_option Elab.async false
set_option linter.all false
set_option maxRecDepth 100000
set_option maxHeartbeats 4000000
namespace Tr
open PySem PySem.Spec L2


section
variable {P : Program} {w : World} {K : PySem.W.Frag} {mg : Str → Option Value} {base : Heap}

def F_L_has : TSpec := fun ts M Q => ∃ (d : LD) (x : Int), ts = [dayL d, .int x] ∧ d.Ok ∧ 0 ≤ x ∧ Q (.bl (hasD d x)) M
theorem kp_L_has (c : Fx K mg) : Kp P w K mg base ("_law_has", none) 1 2 (F_L_has) := by
  refine kp_def (d := d_L_has) c M_L_has S_L_has rfl (fun FD => FD.bindsN fun _ _ _ _ _ _ us hl => match us, hl with | [_, _], _ => rfl) fun cdv A outer s H E hr => ⟨_, (
    (qss_cons (qs_asg (qv 0) (qg_tup rfl (qgs_cons (qg_name 2 S_L_has.nd) (qgs_cons (qg_name 3 S_L_has.nd) (qgs_cons (qg_name 4 S_L_has.nd) (qgs_cons (qg_name 5 S_L_has.nd) (qgs_cons (qg_name 6 S_L_has.nd) qgs_nil)))))))
      (qss_cons (qs_if (qt_cmp ot_in (qv 1) (qv 6))
      (qss_one (qs_ret qe_bl))
      qss_nil)
      (qss_cons (qs_if (QW.qt (qw_or (qt_cmp ot_lt (qv 1) (qv 3)) (qw_or (QW.qt (qw_and (qt_cmp ot_notN (qv 4) qe_non) (qw_and1 (qt_cmp ot_gt (qv 1) (qv 4))))) (qw_or1 (qt_cmp ot_in (qv 1) (qv 5))))))
      (qss_one (qs_ret qe_bl))
      qss_nil)
      (qss_one (qs_ret (qe_cmp ot_eq (qe_ix it_str (qv 2) (qe_op ot_mod (qv 1) (qe_callB ct_lenS c.b_len (qa_cons (qv 2) qa_nil)))) qe_str))))))), ?_⟩
  rintro ts M Q hl ⟨d, x, rfl, ok, h0, q⟩
  refine ⟨rfl, rfl, flatI _, ?_⟩
  show (inI x (intsT d.more) = true → _) ∧ (inI x (intsT d.more) = false → _)
  rw [inI_map]
  unfold hasD at q
  by_cases h1 : x ∈ d.more
  · rw [decide_eq_true h1, Bool.true_or] at q
    exact yesd h1 ⟨M, Msub.refl M, q⟩
  rw [decide_eq_false h1, Bool.false_or] at q
  refine nod h1 ?_
  by_cases h2 : x < d.low
  · rw [decide_eq_true h2, Bool.true_or] at q
    exact yesd h2 (yes rfl ⟨M, Msub.refl M, q⟩)
  rw [decide_eq_false h2, Bool.false_or] at q
  refine nod h2 ?_
  obtain ⟨b1, b2, b3⟩ := ok.bits
  have e1 : d.bits.length = d.bits.cps.size := rfl
  have l1 : d.bits.cps.toList.length = d.bits.cps.size := Array.length_toList
  have p0 : 0 ≤ x % (d.bits.cps.size : Int) := Int.emod_nonneg _ (by omega)
  have p1 : x % (d.bits.cps.size : Int) < (d.bits.cps.size : Int) := Int.emod_lt_of_pos _ (by omega)
  have lt : (x % (d.bits.cps.size : Int)).toNat < d.bits.cps.toList.length := by omega
  have get := List.getElem?_eq_getElem lt
  have e2 : bitAt d.bits x = decide ((⟨#[d.bits.cps.toList[(x % (d.bits.cps.size : Int)).toNat]]⟩ : Str) = "1") := by
    unfold bitAt
    rw [get, sign_one]
  obtain ⟨bits, low, high, gone1, more⟩ := d
  have ring : Q (.bl (bitAt bits x)) M → wRet (wOp (trEq id) (wOp trIxS (wVar 2) (wOp (trI (fun _ j => 0 < j) fun i j => i % j) (wVar 1) (wCall (c1 trLenS) (wCons (wVar 2) wNil)))) (wC (.str "1"))) (endsF Q) [some (dayL ⟨bits, low, high, gone1, more⟩), some (.int x), some (.str bits), some (.int low), some (optT high), some (.lst (intsT gone1)), some (.lst (intsT more))] M := fun q => by
    refine ⟨by dsimp only at e1 b1 b2; omega, by show (0 : Int) < ((bits.length : Nat) : Int); dsimp only at e1 b1 b2; omega, _, p0, by dsimp only at e1 b1 b2; omega, get, M, Msub.refl M, ?_⟩
    rw [e2] at q
    exact q
  have gone : Q (.bl (!decide (x ∈ gone1) && bitAt bits x)) M → (inI x (intsT gone1) = true → (endsF Q).rt (.bl false) M) ∧ (inI x (intsT gone1) = false → wRet (wOp (trEq id) (wOp trIxS (wVar 2) (wOp (trI (fun _ j => 0 < j) fun i j => i % j) (wVar 1) (wCall (c1 trLenS) (wCons (wVar 2) wNil)))) (wC (.str "1"))) (endsF Q) [some (dayL ⟨bits, low, high, gone1, more⟩), some (.int x), some (.str bits), some (.int low), some (optT high), some (.lst (intsT gone1)), some (.lst (intsT more))] M) := fun q => by
    rw [inI_map]
    by_cases h3 : x ∈ gone1
    · rw [decide_eq_true h3] at q
      exact yesd h3 ⟨M, Msub.refl M, q⟩
    · rw [decide_eq_false h3] at q
      exact nod h3 (ring q)
  cases high with
  | none => exact no rfl (no rfl ⟨flatI _, gone q⟩)
  | some h =>
    refine yes rfl ?_
    by_cases h4 : h < x
    · have q : Q (.bl (!(decide (h < x) || decide (x ∈ gone1)) && bitAt bits x)) M := q
      rw [decide_eq_true h4, Bool.true_or] at q
      exact yesd h4 (yes rfl ⟨M, Msub.refl M, q⟩)
    · have q : Q (.bl (!(decide (h < x) || decide (x ∈ gone1)) && bitAt bits x)) M := q
      rw [decide_eq_false h4, Bool.false_or] at q
      exact nod h4 ⟨flatI _, gone q⟩
end
end Tr

set_option Elab.async false
set_option linter.all false
set_option maxRecDepth 100000
set_option maxHeartbeats 4000000
namespace Tr
open PySem PySem.Spec L2


section
variable {P : Program} {w : World} {K : PySem.W.Frag} {mg : Str → Option Value} {base : Heap}

def F_L_joined : TSpec := fun ts M Q => ∃ o p, ts = [noteT o, noteT p] ∧ optLen o + optLen p < 64 ∧ Q (noteT (joinO o p)) M
theorem kp_L_joined (c : Fx K mg) : Kp P w K mg base ("_law_joined", none) 1 2 (F_L_joined) := by
  refine kp_def (d := d_L_joined) c M_L_joined S_L_joined rfl (fun FD => FD.bindsN fun _ _ _ _ _ _ us hl => match us, hl with | [_, _], _ => rfl) fun cdv A outer s H E hr => ⟨_, (
    (qss_cons (qs_if (QW.qt (qw_or (qt_cmp ot_isN (qv 0) qe_non) (qw_or1 (qt_cmp ot_isN (qv 1) qe_non))))
      (qss_one (qs_ret (qe_ifExp (qt_cmp ot_isN (qv 0) qe_non) (qv 1) (qv 0))))
      qss_nil)
      (qss_one (qs_ret (qe_callTy ct_tuple c.b_tuple (qa_cons (qe_sortSet rfl (qe_op ot_catT (qv 0) (qv 1)) (by rfl) c.b_sorted (by rfl) c.b_set) qa_nil)))))), ?_⟩
  rintro ts M Q hl ⟨o, p, rfl, h64, q⟩
  cases o with
  | none =>
    refine yes rfl (yes rfl ?_)
    refine yes rfl ⟨M, Msub.refl M, ?_⟩
    cases p with
    | none => exact q
    | some ys => exact q
  | some xs =>
    cases p with
    | none => exact no rfl (yes rfl (no rfl ⟨M, Msub.refl M, q⟩))
    | some ys =>
      have h64 : xs.length + ys.length < 64 := h64
      refine no rfl (no rfl ⟨by rw [List.length_map, List.length_map]; omega, _, rfl, by rw [List.length_append, List.length_map, List.length_map]; exact h64, .inr ⟨xs ++ ys, by rw [List.map_append], fun ms nd s mem => ?_⟩⟩)
      rw [uni_of nd s mem]
      exact ⟨M, Msub.refl M, q⟩
def valN (z : LC) (x : Int) : Option (List Str) := if x < 0 then none else notesC z x
theorem valN_nn {z : LC} {x : Int} (h : ¬ x < 0) : valN z x = notesC z x := if_neg h
def F_L_notes (L : Ln) (n : Nat) : TSpec := fun ts M Q => ∃ a lk d z x, ts = [lcT d, .int x, .adr a] ∧ M a = some (.dic lk (llT L)) ∧ exp L n d = some z ∧ okC z ∧ z.wt ≤ 30 ∧ Q (noteT (valN z x)) M
theorem opt_few {z : LC} {x : Int} (ok : okC z) : optLen (notesC z x) ≤ 2 * z.wt := by
  cases e : notesC z x with
  | none => exact Nat.zero_le _
  | some ws => exact (notes_ok z x ws ok e).few
theorem kp_L_notes (c : Fx K mg) {L : Ln} {n : Nat} (k_L_notes : Kp P w K mg base ("_law_notes", none) (3 + n) 3 (F_L_notes L n)) : Kp P w K mg base ("_law_notes", none) (3 + n + 1) 3 (F_L_notes L (n + 1)) := by
  have k_L_has := kp_L_has (P := P) (w := w) (base := base) c
  have k_L_joined := kp_L_joined (P := P) (w := w) (base := base) c
  refine kp_def (d := d_L_notes) c M_L_notes S_L_notes rfl (fun FD => FD.bindsN fun _ _ _ _ _ _ us hl => match us, hl with | [_, _, _], _ => rfl) fun cdv A outer s H E hr => ⟨_, (
    (qss_cons (qs_if (qt_cmp ot_lt (qv 1) qe_int)
      (qss_one (qs_ret qe_non))
      qss_nil)
      (qss_cons (qs_if (qt_cmp ot_eq (qe_ix it_seqx (qv 0) qe_int) qe_str)
      (qss_one (qs_ret (qe_ifExp (qt_cmp ot_in (qv 1) (qe_ix it_seqx (qv 0) qe_int)) (qe_ix it_seqx (qv 0) qe_int) qe_non)))
      qss_nil)
      (qss_cons (qs_if (qt_cmp ot_eq (qe_ix it_seqx (qv 0) qe_int) qe_str)
      (qss_one (qs_ret (qe_ifExp (QW.qt (qw_and (qt_cmp ot_in (qe_op ot_mod (qv 1) qe_int) (qe_ix it_seqx (qv 0) qe_int)) (qw_and1 (qt_val (qe_fn (k_L_has) (hr.mono (by omega)) c.g_law_has (qa_cons (qe_ix it_seqx (qv 0) qe_int) (qa_cons (qe_op ot_fdiv (qv 1) qe_int) qa_nil))))))) (qe_ix it_seqx (qv 0) qe_int) qe_non)))
      qss_nil)
      (qss_cons (qs_if (qt_cmp ot_eq (qe_ix it_seqx (qv 0) qe_int) qe_str)
      (qss_one (qs_ret (qe_fn (k_L_notes) (hr.mono (by omega)) c.g_law_notes (qa_cons (qe_dgetx (Tr.Room.u1 hr) (qv 2) (qe_ix it_seqx (qv 0) qe_int)) (qa_cons (qv 1) (qa_cons (qv 2) qa_nil))))))
      qss_nil)
      (qss_cons (qs_if (qt_cmp ot_eq (qe_ix it_seqx (qv 0) qe_int) qe_str)
      (qss_one (qs_ret (qe_fn (k_L_notes) (hr.mono (by omega)) c.g_law_notes (qa_cons (qe_ix it_seqx (qv 0) qe_int) (qa_cons (qe_op ot_sub (qv 1) (qe_ix it_seqx (qv 0) qe_int)) (qa_cons (qv 2) qa_nil))))))
      qss_nil)
      (qss_cons (qs_set 3 S_L_notes.nd (qe_fn (k_L_notes) (hr.mono (by omega)) c.g_law_notes (qa_cons (qe_ix it_seqx (qv 0) qe_int) (qa_cons (qv 1) (qa_cons (qv 2) qa_nil)))))
      (qss_cons (qs_if (qt_cmp ot_eq (qe_ix it_seqx (qv 0) qe_int) qe_str)
      (qss_one (qs_ret (qe_ifExp (qt_cmp ot_isN (qv 3) qe_non) qe_non (qe_fn (k_L_joined) (hr.mono (by omega)) c.g_law_joined (qa_cons (qv 3) (qa_cons (qe_tup (qa_cons (qe_ix it_seqx (qv 0) qe_int) qa_nil)) qa_nil))))))
      qss_nil)
      (qss_cons (qs_if (qt_cmp ot_eq (qe_ix it_seqx (qv 0) qe_int) qe_str)
      (qss_one (qs_ret (qe_ifExp (qt_val (qe_fn (k_L_has) (hr.mono (by omega)) c.g_law_has (qa_cons (qe_ix it_seqx (qv 0) qe_int) (qa_cons (qe_op ot_fdiv (qv 1) qe_int) qa_nil)))) (qe_fn (k_L_notes) (hr.mono (by omega)) c.g_law_notes (qa_cons (qe_ix it_seqx (qv 0) qe_int) (qa_cons (qv 1) (qa_cons (qv 2) qa_nil)))) (qv 3))))
      qss_nil)
      (qss_cons (qs_set 4 S_L_notes.nd (qe_fn (k_L_notes) (hr.mono (by omega)) c.g_law_notes (qa_cons (qe_ix it_seqx (qv 0) qe_int) (qa_cons (qv 1) (qa_cons (qv 2) qa_nil)))))
      (qss_cons (qs_if (qt_cmp ot_eq (qe_ix it_seqx (qv 0) qe_int) qe_str)
      (qss_one (qs_ret (qe_ifExp (qt_cmp ot_isN (qv 4) qe_non) (qv 3) qe_non)))
      qss_nil)
      (qss_one (qs_ret (qe_fn (k_L_joined) (hr.mono (by omega)) c.g_law_joined (qa_cons (qv 3) (qa_cons (qv 4) qa_nil)))))))))))))))), ?_⟩
  rintro ts M Q hl ⟨a, lk, d, z, x, rfl, ha, hz, ok, hw, q⟩
  by_cases h0 : x < 0
  · refine yesd h0 ⟨M, Msub.refl M, ?_⟩
    rw [show valN z x = none from if_pos h0] at q
    exact q
  refine nod h0 ?_
  rw [valN_nn h0] at q
  have z3 : (0 : Int) < 1440 := by decide
  have hd : (0 : Int) < 1440 ∧ (1440 : Int) < 1073741824 := by decide
  have x0 : 0 ≤ x / 1440 := Int.ediv_nonneg (by omega) (by decide)
  have call : ∀ (d1 z1 : LC) (Q' : TQ), exp L n d1 = some z1 → okC z1 → z1.wt ≤ 30 → Q' (noteT (notesC z1 x)) M → F_L_notes L n [lcT d1, .int x, .adr a] M Q' := fun d1 z1 Q' h1 h2 h3 h4 => ⟨a, lk, d1, z1, x, rfl, ha, h1, h2, h3, by rw [valN_nn h0]; exact h4⟩
  cases d with
  | once s l =>
    cases hz
    refine ⟨_, _, _, .inr rfl, rfl, rfl, yes (by decide) ⟨_, _, _, .inr rfl, rfl, rfl, flatI _, ?_⟩⟩
    show (inI x (intsT s) = true → _) ∧ (inI x (intsT s) = false → _)
    rw [inI_map]
    by_cases hx : x ∈ s
    · rw [show notesC (.once s l) x = some l from if_pos hx] at q
      exact yesd hx ⟨_, _, _, .inr rfl, rfl, rfl, M, Msub.refl M, q⟩
    · rw [show notesC (.once s l) x = none from if_neg hx] at q
      exact nod hx ⟨M, Msub.refl M, q⟩
  | every d s l =>
    cases hz
    refine ⟨_, _, _, .inr rfl, rfl, rfl, no (by decide) ⟨_, _, _, .inr rfl, rfl, rfl, yes (by decide) ⟨z3, _, _, _, .inr rfl, rfl, rfl, flatI _, ?_⟩⟩⟩
    show (inI (x % 1440) (intsT s) = true → _) ∧ (inI (x % 1440) (intsT s) = false → _)
    rw [inI_map]
    by_cases hx : x % 1440 ∈ s
    · refine yesd hx ⟨_, _, _, .inr rfl, rfl, rfl, hd, rfl, cl_of ⟨d, x / 1440, rfl, ok.1, x0, ?_⟩⟩
      cases e : hasD d (x / 1440) with
      | true =>
        rw [show notesC (.every d s l) x = some l from if_pos ⟨hx, e⟩] at q
        exact yes rfl ⟨_, _, _, .inr rfl, rfl, rfl, M, Msub.refl M, q⟩
      | false =>
        rw [show notesC (.every d s l) x = none from if_neg fun w => by rw [e] at w; cases w.2] at q
        exact no rfl ⟨M, Msub.refl M, q⟩
    · rw [show notesC (.every d s l) x = none from if_neg fun w => hx w.1] at q
      exact nod hx (no rfl ⟨M, Msub.refl M, q⟩)
  | as m =>
    have hz : (lget m L).bind (exp L n) = some z := hz
    cases e : lget m L with
    | none => rw [e] at hz; cases hz
    | some cc =>
      rw [e] at hz
      exact ⟨_, _, _, .inr rfl, rfl, rfl, no (by decide) ⟨_, _, _, .inr rfl, rfl, rfl, no (by decide) ⟨_, _, _, .inr rfl, rfl, rfl, yes (by decide) ⟨_, _, _, .inr rfl, rfl, rfl, lk, _, _, ha, rfl, lcT cc, by rw [kget_ll, e]; rfl, rfl, cl_of (call cc z _ hz ok hw ⟨M, Msub.refl M, q⟩)⟩⟩⟩⟩
  | later b m =>
    obtain ⟨y, e1, rfl⟩ := Option.map_eq_some_iff.mp (show (exp L n b).map (fun y => LC.later y m) = some z from hz)
    have hw : 1 + y.wt ≤ 30 := hw
    have e2 : notesC (.later y m) x = valN y (x - m) := by
      show (if m ≤ x then notesC y (x - m) else none) = if x - m < 0 then none else notesC y (x - m)
      by_cases hm : m ≤ x
      · rw [if_pos hm, if_neg (by omega)]
      · rw [if_neg hm, if_pos (by omega)]
    rw [e2] at q
    exact ⟨_, _, _, .inr rfl, rfl, rfl, no (by decide) ⟨_, _, _, .inr rfl, rfl, rfl, no (by decide) ⟨_, _, _, .inr rfl, rfl, rfl, no (by decide) ⟨_, _, _, .inr rfl, rfl, rfl, yes (by decide) ⟨_, _, _, .inr rfl, rfl, rfl, _, _, _, .inr rfl, rfl, rfl, rfl, cl_of ⟨a, lk, b, y, x - m, rfl, ha, e1, ok.1, by omega, M, Msub.refl M, q⟩⟩⟩⟩⟩⟩
  | noted b v =>
    obtain ⟨y, e1, rfl⟩ := Option.map_eq_some_iff.mp (show (exp L n b).map (fun y => LC.noted y v) = some z from hz)
    have hw : 1 + y.wt ≤ 30 := hw
    have fe := opt_few (x := x) ok.1
    refine ⟨_, _, _, .inr rfl, rfl, rfl, no (by decide) ⟨_, _, _, .inr rfl, rfl, rfl, no (by decide) ⟨_, _, _, .inr rfl, rfl, rfl, no (by decide) ⟨_, _, _, .inr rfl, rfl, rfl, no (by decide) ⟨_, _, _, .inr rfl, rfl, rfl, rfl, cl_of (call b y _ e1 ok.1 (by omega) ⟨_, _, _, .inr rfl, rfl, rfl, yes (by decide) ?_⟩)⟩⟩⟩⟩⟩
    have q : Q (noteT ((notesC y x).map fun ws => uni (ws ++ [v]))) M := q
    cases e : notesC y x with
    | none =>
      rw [e] at q
      exact yes rfl ⟨M, Msub.refl M, q⟩
    | some ws =>
      rw [e] at q fe
      have fe : ws.length ≤ 2 * y.wt := fe
      refine no rfl ⟨_, _, _, .inr rfl, rfl, rfl, Nat.le_of_ble_eq_true rfl, rfl, cl_of ⟨some ws, some [v], rfl, by show ws.length + 1 < 64; omega, M, Msub.refl M, q⟩⟩
  | swap b d b2 =>
    obtain ⟨y, y2, e1, e2, rfl⟩ := two_some (show two (fun x y => LC.swap x d y) (exp L n b) (exp L n b2) = some z from hz)
    have hw : 1 + (y.wt + y2.wt) ≤ 30 := hw
    refine ⟨_, _, _, .inr rfl, rfl, rfl, no (by decide) ⟨_, _, _, .inr rfl, rfl, rfl, no (by decide) ⟨_, _, _, .inr rfl, rfl, rfl, no (by decide) ⟨_, _, _, .inr rfl, rfl, rfl, no (by decide) ⟨_, _, _, .inr rfl, rfl, rfl, rfl, cl_of (call b y _ e1 ok.1 (by omega) ⟨_, _, _, .inr rfl, rfl, rfl, no (by decide) ⟨_, _, _, .inr rfl, rfl, rfl, yes (by decide) ?_⟩⟩)⟩⟩⟩⟩⟩
    refine ⟨_, _, _, .inr rfl, rfl, rfl, hd, rfl, cl_of ⟨d, x / 1440, rfl, ok.2.1, x0, ?_⟩⟩
    have q : Q (noteT (if hasD d (x / 1440) = true then notesC y2 x else notesC y x)) M := q
    cases e : hasD d (x / 1440) with
    | true =>
      rw [e, if_pos rfl] at q
      exact yes rfl ⟨_, _, _, .inr rfl, rfl, rfl, rfl, cl_of (call b2 y2 _ e2 ok.2.2 (by omega) ⟨M, Msub.refl M, q⟩)⟩
    | false =>
      rw [e, if_neg (by decide)] at q
      exact no rfl ⟨M, Msub.refl M, q⟩
  | less b b2 =>
    obtain ⟨y, y2, e1, e2, rfl⟩ := two_some (show two LC.less (exp L n b) (exp L n b2) = some z from hz)
    have hw : 1 + (y.wt + y2.wt) ≤ 30 := hw
    refine ⟨_, _, _, .inr rfl, rfl, rfl, no (by decide) ⟨_, _, _, .inr rfl, rfl, rfl, no (by decide) ⟨_, _, _, .inr rfl, rfl, rfl, no (by decide) ⟨_, _, _, .inr rfl, rfl, rfl, no (by decide) ⟨_, _, _, .inr rfl, rfl, rfl, rfl, cl_of (call b y _ e1 ok.1 (by omega) ⟨_, _, _, .inr rfl, rfl, rfl, no (by decide) ⟨_, _, _, .inr rfl, rfl, rfl, no (by decide) ⟨_, _, _, .inr rfl, rfl, rfl, rfl, cl_of (call b2 y2 _ e2 ok.2 (by omega) ⟨_, _, _, .inr rfl, rfl, rfl, yes (by decide) ?_⟩)⟩⟩⟩)⟩⟩⟩⟩⟩
    have q : Q (noteT (if (notesC y2 x).isNone = true then notesC y x else none)) M := q
    cases e : notesC y2 x with
    | none =>
      rw [e, if_pos (show (none : Option (List Str)).isNone = true from rfl)] at q
      exact yes rfl ⟨M, Msub.refl M, q⟩
    | some ws =>
      rw [e, if_neg (fun w => by cases w)] at q
      exact no rfl ⟨M, Msub.refl M, q⟩
  | join b b2 =>
    obtain ⟨y, y2, e1, e2, rfl⟩ := two_some (show two LC.join (exp L n b) (exp L n b2) = some z from hz)
    have hw : 1 + (y.wt + y2.wt) ≤ 30 := hw
    have f1 := opt_few (x := x) ok.1
    have f2 := opt_few (x := x) ok.2
    have q : Q (noteT (joinO (joinO none (notesC y x)) (notesC y2 x))) M := q
    rw [show joinO none (notesC y x) = notesC y x from by cases notesC y x <;> rfl] at q
    exact ⟨_, _, _, .inr rfl, rfl, rfl, no (by decide) ⟨_, _, _, .inr rfl, rfl, rfl, no (by decide) ⟨_, _, _, .inr rfl, rfl, rfl, no (by decide) ⟨_, _, _, .inr rfl, rfl, rfl, no (by decide) ⟨_, _, _, .inr rfl, rfl, rfl, rfl, cl_of (call b y _ e1 ok.1 (by omega) ⟨_, _, _, .inr rfl, rfl, rfl, no (by decide) ⟨_, _, _, .inr rfl, rfl, rfl, no (by decide) ⟨_, _, _, .inr rfl, rfl, rfl, rfl, cl_of (call b2 y2 _ e2 ok.2 (by omega) ⟨_, _, _, .inr rfl, rfl, rfl, no (by decide) ⟨rfl, cl_of ⟨_, _, rfl, by omega, M, Msub.refl M, q⟩⟩⟩)⟩⟩⟩)⟩⟩⟩⟩⟩
end
section
variable {P : Program} {w : World} {K : PySem.W.Frag} {mg : Str → Option Value} {base : Heap}
theorem L_notes_all (c : Fx K mg) (L : Ln) : ∀ n, Kp P w K mg base ("_law_notes", none) (3 + n) 3 (F_L_notes L n)
  | 0 => kp_vac (d := d_L_notes) (ps := ["_law_card_here", "_law_spot", "_law_lines"]) c M_L_notes (fun FD => FD.bindsN fun _ _ _ _ _ _ us hl => match us, hl with | [_, _, _], _ => rfl) fun ts M Q ⟨_, _, _, _, _, _, _, h, _⟩ => by cases h
  | n + 1 => kp_L_notes c (L_notes_all c L n)
end
section
variable {P : Program} {w : World} {K : PySem.W.Frag} {mg : Str → Option Value} {base : Heap}

end
end Tr

set_option Elab.async false
set_option linter.all false
set_option maxRecDepth 100000
set_option maxHeartbeats 4000000
namespace Tr
open PySem PySem.Spec L2


section
variable {P : Program} {w : World} {K : PySem.W.Frag} {mg : Str → Option Value} {base : Heap}

structure Gos (n : Nat) (ns : List Int) : Prop where
  ne : ns ≠ []
  nn : ∀ m ∈ ns, 0 ≤ m
  few : ns.length ≤ n
  hi : ∀ m ∈ ns, m ≤ 40000 + 100 * (n : Int)
def F_L_goes (L : Ln) (n : Nat) : TSpec := fun ts M Q => ∃ a lk d z, ts = [lcT d, .adr a] ∧ M a = some (.dic lk (llT L)) ∧ exp L n d = some z ∧ okC z ∧ z.wt ≤ 400 ∧ ∀ ns, Gos (200 * z.wt) ns → Q (.lst (intsT ns)) M
theorem reb_okC {d : LC} : ∀ {zs : List LC}, zs.length = d.kids.length → okC (rebuild d zs) → ∀ y ∈ zs, okC y := by
  intro zs hl h
  cases d with
  | as m => match zs, hl with | [], _ => intro y hy; cases hy
  | once s l => match zs, hl with | [], _ => intro y hy; cases hy
  | every d s l => match zs, hl with | [], _ => intro y hy; cases hy
  | later a m => match zs, hl with | [x], _ => exact kids_okC (d := .later x m) h
  | noted a m => match zs, hl with | [x], _ => exact kids_okC (d := .noted x m) h
  | less a b => match zs, hl with | [x, y], _ => exact kids_okC (d := .less x y) h
  | swap a d b => match zs, hl with | [x, y], _ => exact kids_okC (d := .swap x d y) h
  | join a b => match zs, hl with | [x, y], _ => exact kids_okC (d := .join x y) h
theorem take_wt {zs : List LC} {k : Nat} {y : LC} (h : zs[k]? = some y) : ((zs.take (k + 1)).map LC.wt).sum = ((zs.take k).map LC.wt).sum + y.wt := by
  rw [take_next h, List.map_append, List.sum_append]
  simp
theorem take_all {zs : List LC} (k : Nat) : ((zs.take k).map LC.wt).sum ≤ (zs.map LC.wt).sum := by
  have e : (zs.map LC.wt).sum = ((zs.take k).map LC.wt).sum + ((zs.drop k).map LC.wt).sum := by
    rw [← List.sum_append, ← List.map_append, List.take_append_drop]
  omega
theorem tag3 {d : LC} (hk : d.kids ≠ []) : ∃ (xs : List T) (nm : Str), lcT d = .tup (.str nm :: xs) ∧ nm ≠ "once" ∧ nm ≠ "every" ∧ nm ≠ "as" := by
  cases d with
  | as m => exact absurd rfl hk
  | once s l => exact absurd rfl hk
  | every d s l => exact absurd rfl hk
  | later a m => exact ⟨_, _, rfl, by decide, by decide, by decide⟩
  | noted a m => exact ⟨_, _, rfl, by decide, by decide, by decide⟩
  | less a b => exact ⟨_, _, rfl, by decide, by decide, by decide⟩
  | swap a d b => exact ⟨_, _, rfl, by decide, by decide, by decide⟩
  | join a b => exact ⟨_, _, rfl, by decide, by decide, by decide⟩
theorem kd_of {d : LC} (hk : d.kids ≠ []) : d.kd.isNone = false := by
  cases d with
  | as m => exact absurd rfl hk
  | _ => rfl
theorem kp_L_goes (c : Fx K mg) {L : Ln} {n : Nat} (k_L_goes : Kp P w K mg base ("_law_goes", none) (2 + n) 2 (F_L_goes L n)) : Kp P w K mg base ("_law_goes", none) (2 + n + 1) 2 (F_L_goes L (n + 1)) := by
  have k_L_inner := kp_L_inner (P := P) (w := w) (base := base) c
  refine kp_def (d := d_L_goes) c M_L_goes S_L_goes rfl (fun FD => FD.bindsN fun _ _ _ _ _ _ us hl => match us, hl with | [_, _], _ => rfl) fun cdv A outer s H E hr => ⟨_, (
    (qss_cons (qs_if (qt_cmp ot_eq (qe_ix it_seqx (qv 0) qe_int) qe_str)
      (qss_one (qs_ret (qe_callTy ct_list c.b_list (qa_cons (qe_ix it_seqx (qv 0) qe_int) qa_nil))))
      qss_nil)
      (qss_cons (qs_if (qt_cmp ot_eq (qe_ix it_seqx (qv 0) qe_int) qe_str)
      (qss_one (qs_ret (qe_lc1 2 rfl S_L_goes.nd (qi_range1 (qa_cons qe_int qa_nil) (by rfl) c.b_range) (blkOk_by (by rfl)) (fun s H C cl fp => qts_one (qt_cmp ot_lt (qe_op ot_mod (qv 2) qe_int) (qe_callB ct_len c.b_len (qa_cons (qe_ix it_seqx (qv 0) qe_int) qa_nil)))) (fun s H C cl fp => (qe_op ot_add (qe_op ot_mul qe_int (qe_op ot_fdiv (qv 2) qe_int)) (qe_ix it_seqx (qe_ix it_seqx (qv 0) qe_int) (qe_op ot_mod (qv 2) qe_int)))))))
      qss_nil)
      (qss_cons (qs_if (qt_cmp ot_eq (qe_ix it_seqx (qv 0) qe_int) qe_str)
      (qss_one (qs_ret (qe_fn (k_L_goes) (hr.mono (by omega)) c.g_law_goes (qa_cons (qe_dgetx (Tr.Room.u1 hr) (qv 1) (qe_ix it_seqx (qv 0) qe_int)) (qa_cons (qv 1) qa_nil)))))
      qss_nil)
      (qss_cons (qs_set 3 S_L_goes.nd (qe_lst qa_nil))
      (qss_cons (qs_for PassesOwn.never rfl (qi_lst (qe_fn (k_L_inner) (hr.mono (by omega)) c.g_law_inner (qa_cons (qv 0) qa_nil))) (qg_name 4 S_L_goes.nd)
      (qss_one (qs_set 3 S_L_goes.nd (qe_op ot_catL (qv 3) (qe_fn (k_L_goes) (hr.mono (by omega)) c.g_law_goes (qa_cons (qv 4) (qa_cons (qv 1) qa_nil)))))))
      (qss_cons (qs_if (qt_cmp ot_eq (qe_ix it_seqx (qv 0) qe_int) qe_str)
      (qss_one (qs_ret (qe_lc1 5 rfl S_L_goes.nd (qi_lst (qv 3)) (blkOk_by (by rfl)) (fun s H C cl fp => qts_nil) (fun s H C cl fp => (qe_op ot_add (qv 5) (qe_ix it_seqx (qv 0) qe_int))))))
      qss_nil)
      (qss_one (qs_ret (qv 3)))))))))), ?_⟩
  rintro ts M Q hl ⟨a, lk, d, z, rfl, ha, hz, ok, hw, q⟩
  have z3 : (0 : Int) < 3 := by decide
  have hd : (0 : Int) < 3 ∧ (3 : Int) < 1073741824 := by decide
  by_cases hc : d.kids = []
  · cases d with
      | once s l =>
        cases hz
        refine ⟨_, _, _, .inr rfl, rfl, rfl, yes (by decide) ⟨_, _, _, .inr rfl, rfl, rfl, M, Msub.refl M, q s ⟨ok.2.1, ok.1.nn, by show s.length ≤ 200 * 1; have := ok.1.few; omega, fun m hm => by have := ok.1.hi m hm; omega⟩⟩⟩
      | every d s l =>
        cases hz
        obtain ⟨dok, sp, ne, few, lt, lot⟩ := ok
        have s0 : 0 < s.length := List.length_pos_iff.mpr ne
        refine ⟨_, _, _, .inr rfl, rfl, rfl, no (by decide) ⟨_, _, _, .inr rfl, rfl, rfl, yes (by decide) ⟨by decide, by decide, ?_⟩⟩⟩
        refine ⟨fun k acc M' => M' = M ∧ ∃ ns : List Int, acc = intsT ns ∧ (∀ m ∈ ns, 0 ≤ m ∧ m ≤ 50000) ∧ ns.length ≤ k ∧ (0 < k → ns ≠ []), ⟨rfl, [], rfl, fun _ h => (by cases h), Nat.le_refl _, fun h => absurd h (Nat.lt_irrefl _)⟩, fun _ _ _ _ => kT, ?_, ?_⟩
        · rintro k acc M' t et ⟨rfl, ns, rfl, h1, h2, h3⟩
          obtain ⟨hk, e⟩ := List.getElem?_eq_some_iff.mp et
          rw [rngT_len] at hk
          have hk : k < 75 := hk
          have et : (rngT 0 75)[k]? = some t := et
          rw [rngT_get hk] at et
          cases et
          have m0 : 0 ≤ (0 + (k : Int)) % 3 := Int.emod_nonneg _ (by decide)
          refine ⟨_, rfl, z3, _, _, _, .inr rfl, rfl, rfl, ?_⟩
          refine ⟨fun c => ?_, fun c => ?_⟩
          · have c := of_decide_eq_true c
            dsimp only at c
            rw [List.length_map] at c
            have hj : ((0 + (k : Int)) % 3).toNat < s.length := by omega
            have get : tget (intsT s) ((0 + (k : Int)) % 3) = some (.int s[((0 + (k : Int)) % 3).toNat]) := by
              unfold tget
              rw [if_pos m0, List.getElem?_map, List.getElem?_eq_getElem hj]
              rfl
            refine ⟨hd, .inl (by decide), _, _, _, .inr rfl, rfl, rfl, z3, _, _, _, .inl rfl, rfl, get, ?_⟩
            refine ⟨by rw [List.length_map]; omega, rfl, ns ++ [1440 * ((0 + (k : Int)) / 3) + s[((0 + (k : Int)) % 3).toNat]], by unfold intsT; rw [List.map_append]; rfl, fun m hm => ?_, by rw [List.length_append]; show ns.length + 1 ≤ k + 1; omega, fun _ w => by simp at w⟩
            rcases List.mem_append.mp hm with hm | hm
            · exact h1 m hm
            · rw [List.mem_singleton.mp hm]
              have s1 := sp.nn _ (List.getElem_mem hj)
              have s2 := lt _ (List.getElem_mem hj)
              omega
          · have c := of_decide_eq_false c
            dsimp only at c
            rw [List.length_map] at c
            refine ⟨rfl, ns, rfl, h1, by omega, fun _ => h3 ?_⟩
            by_cases k0 : k = 0
            · subst k0
              exact absurd (by show (0 : Int) < (s.length : Int); omega) c
            · omega
        · rintro acc M' ⟨rfl, ns, rfl, h1, h2, h3⟩
          rw [rngT_len] at h2 h3
          exact ⟨M', Msub.refl M', q ns ⟨h3 (by decide), fun m hm => (h1 m hm).1, by show ns.length ≤ 200 * 1; have h2 : ns.length ≤ 75 := h2; omega, fun m hm => by have := (h1 m hm).2; show m ≤ 40000 + 100 * ((200 * 1 : Nat) : Int); omega⟩⟩
      | as m =>
        have hz : (lget m L).bind (exp L n) = some z := hz
        cases e : lget m L with
        | none => rw [e] at hz; cases hz
        | some cc =>
          rw [e] at hz
          exact ⟨_, _, _, .inr rfl, rfl, rfl, no (by decide) ⟨_, _, _, .inr rfl, rfl, rfl, no (by decide) ⟨_, _, _, .inr rfl, rfl, rfl, yes (by decide) ⟨_, _, _, .inr rfl, rfl, rfl, lk, _, _, ha, rfl, lcT cc, by rw [kget_ll, e]; rfl, rfl, cl_of ⟨a, lk, cc, z, rfl, ha, hz, ok, hw, fun ns g => ⟨M, Msub.refl M, q ns g⟩⟩⟩⟩⟩⟩
      | _ => cases hc
  · obtain ⟨xs, nm, e0, n1, n2, n3⟩ := tag3 hc
    have hk := kd_of hc
    obtain ⟨zs, hlen, ez, kid⟩ := exp_kids hk hz
    have hsum : z.wt = 1 + (zs.map LC.wt).sum := by rw [ez]; exact rebuild_sum hk hlen
    have oks : ∀ y ∈ zs, okC y := reb_okC hlen (by rw [← ez]; exact ok)
    have hpos : 0 < d.kids.length := List.length_pos_iff.mpr hc
    refine ⟨_, _, .str nm, .inr (by rw [e0]; rfl), rfl, rfl, nod n1 ⟨_, _, .str nm, .inr (by rw [e0]; rfl), rfl, rfl, nod n2 ⟨_, _, .str nm, .inr (by rw [e0]; rfl), rfl, rfl, nod n3 ⟨Nat.le_of_ble_eq_true rfl, rfl, cl_of ⟨d, rfl, ?_⟩⟩⟩⟩⟩
    refine ⟨fun k s' M' => M' = M ∧ ∃ (ns : List Int) (o : Option T), s' = [some (lcT d), some (.adr a), none, some (.lst (intsT ns)), o, none] ∧ (∀ m ∈ ns, 0 ≤ m ∧ m ≤ 40000 + 20000 * (((zs.take k).map LC.wt).sum : Int)) ∧ ns.length ≤ 200 * ((zs.take k).map LC.wt).sum ∧ (0 < k → ns ≠ []), ⟨rfl, [], none, rfl, fun _ h => (by cases h), Nat.zero_le _, fun h => absurd h (Nat.lt_irrefl _)⟩, fun _ _ _ _ => kT, ?_, ?_⟩
    · rintro k s' M' t et ⟨rfl, ns, o, rfl, h1, h2, h3⟩
      unfold lcsT at et
      rw [List.getElem?_map] at et
      obtain ⟨x, hx, rfl⟩ := Option.map_eq_some_iff.mp et
      obtain ⟨y, hy, ey, hyw⟩ := kid k x hx
      have tw := take_wt hy
      have ta := take_all (zs := zs) (k + 1)
      refine ⟨rfl, cl_of ⟨a, lk, x, y, rfl, ha, ey, oks y (List.mem_of_getElem? hy), by omega, fun ms g => ?_⟩⟩
      have g3 := g.few
      refine ⟨by rw [List.length_map, List.length_map]; omega, rfl, ns ++ ms, some (lcT x), ?_, fun m hm => (List.mem_append.mp hm).elim (fun hm => by have := h1 m hm; omega) (fun hm => by have e1 := g.nn m hm; have e2 := g.hi m hm; omega), by rw [List.length_append]; omega, fun _ w => g.ne (List.append_eq_nil_iff.mp w).2⟩
      rw [show intsT (ns ++ ms) = intsT ns ++ intsT ms from List.map_append]
      rfl
    · rintro s' M' ⟨rfl, ns, o, rfl, h1, h2, h3⟩
      have ta := take_all (zs := zs) (lcsT d.kids).length
      have h3 := h3 (by unfold lcsT; rw [List.length_map]; exact hpos)
      have g : Gos (200 * z.wt) ns := ⟨h3, fun m hm => (h1 m hm).1, by omega, fun m hm => by have := (h1 m hm).2; omega⟩
      have gb : ∀ m ∈ ns, m + 20000 ≤ 40000 + 100 * ((200 * z.wt : Nat) : Int) := fun m hm => by have := (h1 m hm).2; omega
      cases d with
      | as m => cases hk
      | once s l => exact absurd rfl hc
      | every d s l => exact absurd rfl hc
      | later b m =>
        have m0 : 0 ≤ m ∧ m ≤ 10080 := by
          match zs, hlen with
          | [y], _ =>
            rw [ez] at ok
            exact ok.2
        refine ⟨_, _, _, .inr rfl, rfl, rfl, yes (by decide) ?_⟩
        refine lc_get (ts := intsT ns) (M1 := M') (intsT (ns.map fun i => i + m)) kT (by rw [List.length_map]; omega) (by rw [List.length_map, List.length_map, List.length_map]) (fun k t' et => ?_) ?_
        · rw [List.getElem?_map] at et
          obtain ⟨x, hx, rfl⟩ := Option.map_eq_some_iff.mp et
          exact ⟨_, .int (x + m), rfl, by rw [List.getElem?_map, List.getElem?_map, hx]; rfl, fun Q' q' => ⟨_, _, _, .inr rfl, rfl, rfl, q'⟩⟩
        · refine ⟨M', Msub.refl M', q _ ⟨fun w => g.ne (List.map_eq_nil_iff.mp w), fun i hi => ?_, by rw [List.length_map]; exact g.few, fun i hi => ?_⟩⟩
          · obtain ⟨j, hj, rfl⟩ := List.mem_map.mp hi
            have := g.nn j hj
            omega
          · obtain ⟨j, hj, rfl⟩ := List.mem_map.mp hi
            have := gb j hj
            omega
      | noted b v => exact ⟨_, _, _, .inr rfl, rfl, rfl, no (by decide) ⟨M', Msub.refl M', q ns g⟩⟩
      | less b b2 => exact ⟨_, _, _, .inr rfl, rfl, rfl, no (by decide) ⟨M', Msub.refl M', q ns g⟩⟩
      | swap b d b2 => exact ⟨_, _, _, .inr rfl, rfl, rfl, no (by decide) ⟨M', Msub.refl M', q ns g⟩⟩
      | join b b2 => exact ⟨_, _, _, .inr rfl, rfl, rfl, no (by decide) ⟨M', Msub.refl M', q ns g⟩⟩
end
section
variable {P : Program} {w : World} {K : PySem.W.Frag} {mg : Str → Option Value} {base : Heap}
theorem L_goes_all (c : Fx K mg) (L : Ln) : ∀ n, Kp P w K mg base ("_law_goes", none) (2 + n) 2 (F_L_goes L n)
  | 0 => kp_vac (d := d_L_goes) (ps := ["_law_card_here", "_law_lines"]) c M_L_goes (fun FD => FD.bindsN fun _ _ _ _ _ _ us hl => match us, hl with | [_, _], _ => rfl) fun ts M Q ⟨_, _, _, _, _, _, h, _⟩ => by cases h
  | n + 1 => kp_L_goes c (L_goes_all c L n)
end
section
variable {P : Program} {w : World} {K : PySem.W.Frag} {mg : Str → Option Value} {base : Heap}

end
end Tr

set_option Elab.async false
set_option linter.all false
set_option maxRecDepth 100000
set_option maxHeartbeats 4000000
namespace Tr
open PySem PySem.Spec L2


section
variable {P : Program} {w : World} {K : PySem.W.Frag} {mg : Str → Option Value} {base : Heap}

def dueT (x : Int) : Option (List Str) → T
  | none => .non
  | some ws => .tup [.int x, lotT ws]
def F_L_at (K : PySem.W.Frag) : TSpec := fun ts M Q => ∃ d x, ts = [pcT K d, .int x] ∧ NAok 39 d x ∧ Q (dueT x (notesC d x)) M
theorem kp_L_at (c : Fx K mg) : Kp P w K mg base ("_law_at", none) 51 2 (F_L_at K) := by
  have k_going_at := kp_going_at (P := P) (w := w) (base := base) c
  refine kp_def (d := d_L_at) c M_L_at S_L_at rfl (fun FD => FD.bindsN fun _ _ _ _ _ _ us hl => match us, hl with | [_, _], _ => rfl) fun cdv A outer s H E hr => ⟨_, (
    (qss_cons (qs_set 2 S_L_at.nd (qe_fn (k_going_at) (hr.mono (by omega)) c.g_going_at (qa_cons (qv 0) (qa_cons (qv 1) qa_nil))))
      (qss_cons (qs_if (qt_cmp ot_isN (qv 2) qe_non)
      (qss_one (qs_ret qe_non))
      qss_nil)
      (qss_one (qs_ret (qe_tup (qa_cons (qe_fldk c (qv 2)) (qa_cons (qe_fldk c (qv 2)) qa_nil)))))))), ?_⟩
  rintro ts M Q hl ⟨d, x, rfl, h, q⟩
  refine ⟨rfl, cl_of ⟨d, x, rfl, h, ?_⟩⟩
  cases e : notesC d x with
  | none =>
    rw [e] at q
    exact yes rfl ⟨M, Msub.refl M, q⟩
  | some ws =>
    rw [e] at q
    exact no rfl ⟨_, _, _, rfl, c.c_Going, c.n_Going_moment, rfl, _, _, _, rfl, c.c_Going, c.n_Going_notes, rfl, Nat.le_of_ble_eq_true rfl, M, Msub.refl M, q⟩
def F_L_has_as (K : PySem.W.Frag) (n : Nat) : TSpec := fun ts M Q => ∃ d, ts = [pcT K d] ∧ d.ht < n ∧ d.free ∧ d.wt ≤ 60 ∧ Q (.bl false) M
theorem kp_L_has_as (c : Fx K mg) {n : Nat} (k_L_has_as : Kp P w K mg base ("_law_has_as", none) (1 + n) 1 (F_L_has_as K n)) : Kp P w K mg base ("_law_has_as", none) (1 + n + 1) 1 (F_L_has_as K (n + 1)) := by
  have m_inner := mk_inner (P := P) (w := w) (base := base) c
  refine kp_def (d := d_L_has_as) c M_L_has_as S_L_has_as rfl (fun FD => FD.bindsN fun _ _ _ _ _ _ us hl => match us, hl with | [_], _ => rfl) fun cdv A outer s H E hr => ⟨_, (
    (qss_one (qs_ret (qe_or (qe_callB (ct_isik c) c.b_isinstance (qa_cons (qv 0) (qa_cons (qe_gref c.g_As) qa_nil))) (qe_one (qe_callB (ct_any rfl) c.b_any (qa_cons (qe_lc1 1 rfl S_L_has_as.nd (qi_lst (qe_meth0x (fun C e => (m_inner C e).ok (hr.mono (by omega))) (qv 0))) (blkOk_by (by rfl)) (fun s H C cl fp => qts_nil) (fun s H C cl fp => (qe_fn (k_L_has_as) (hr.mono (by omega)) c.g_law_has_as (qa_cons (qv 1) qa_nil)))) qa_nil))))))), ?_⟩
  rintro ts M Q hl ⟨d, rfl, hh, hf, hw, q⟩
  obtain ⟨t, h1, h2, h3⟩ := isi_as c d M
  have hk : d.kd.isNone = false := by
    cases d with
    | as m => cases hf
    | _ => rfl
  rw [hk] at h3
  refine ⟨t, _, h1, h2, h3, ?_⟩
  refine no rfl ?_
  have kf := kids_few d
  refine inner_call (wo := wVar 0) (s := [some (pcT K d), none]) d (fun Q' q' => q') ?_
  refine lc_map (ts := pcsT K d.kids) (M1 := M) (fun _ => .bl false) kT (by unfold pcsT; rw [List.length_map]; omega) (fun t ht => ?_) ?_
  · obtain ⟨x, hx, rfl⟩ := List.mem_map.mp ht
    have wx := kids_wt x hx
    exact ⟨_, rfl, fun Q' q' => ⟨rfl, cl_of ⟨x, rfl, kids_ht hh x hx, kids_free hf x hx, by omega, q'⟩⟩⟩
  · refine ⟨(pcsT K d.kids).map fun _ => false, by rw [List.map_map]; rfl, ?_⟩
    have e : ((pcsT K d.kids).map fun _ => false).any id = false := by
      rw [List.any_map, List.any_eq_false]
      intro x _ h
      cases h
    dsimp only
    rw [e]
    exact ⟨M, Msub.refl M, q⟩
end
section
variable {P : Program} {w : World} {K : PySem.W.Frag} {mg : Str → Option Value} {base : Heap}
theorem L_has_as_all (c : Fx K mg) : ∀ n, Kp P w K mg base ("_law_has_as", none) (1 + n) 1 (F_L_has_as K n)
  | 0 => kp_vac (d := d_L_has_as) (ps := ["_law_card_here"]) c M_L_has_as (fun FD => FD.bindsN fun _ _ _ _ _ _ us hl => match us, hl with | [_], _ => rfl) fun ts M Q ⟨_, _, h, _⟩ => Nat.not_lt_zero _ h
  | n + 1 => kp_L_has_as c (L_has_as_all c n)
end
section
variable {P : Program} {w : World} {K : PySem.W.Frag} {mg : Str → Option Value} {base : Heap}

structure LTold (L : Ln) : Prop where
  few : L.length ≤ 5
  wd : ∀ k c, lget k L = some c → isW k
  nd : (L.map (·.1)).Nodup
  full : ∀ k c, lget k L = some c → ∃ z, exp L 30 (.as k) = some z ∧ okC z ∧ z.wt ≤ 30
def F_L_spots (L : Ln) : TSpec := fun ts M Q => ∃ p a, ts = [.adr p, .adr a] ∧ PotAt M p ∧ M a = some (.dic .un (llT L)) ∧ LTold L ∧ ∀ xs M', (∀ m ∈ xs, 0 ≤ m ∧ m ≤ 1000000000) → xs.length ≤ 8 → PotAt M' p → Oth p M M' → Q (.lst (intsT xs)) M'
theorem kp_L_spots (c : Fx K mg) {L : Ln} : Kp P w K mg base ("_law_spots", none) 40 2 (F_L_spots L) := by
  have k_L_take := kp_L_take (P := P) (w := w) (base := base) c
  have k_L_goes := L_goes_all (P := P) (w := w) (base := base) c L 30
  refine kp_def (d := d_L_spots) c M_L_spots S_L_spots rfl (fun FD => FD.bindsN fun _ _ _ _ _ _ us hl => match us, hl with | [_, _], _ => rfl) fun cdv A outer s H E hr => ⟨_, (
    (qss_cons (qs_set 2 S_L_spots.nd (qe_lstO (qa_cons (qe_fn (k_L_take) (hr.mono (by omega)) c.g_law_take (qa_cons (qv 0) (qa_cons qe_int qa_nil))) qa_nil)))
      (qss_cons (qs_set 3 S_L_spots.nd (qe_callB (ct_sortDx rfl) c.b_sorted (qa_cons (qv 1) qa_nil)))
      (qss_cons (qs_for PassesOwn.never rfl (qi_range1 (qa_cons (qe_op ot_mul qe_int (qe_callTy ct_intB c.b_int (qa_cons (qe_cmp (ot_neNil hr.units) (qv 3) (qe_lst qa_nil)) qa_nil))) qa_nil) (by rfl) c.b_range) (qg_name 4 S_L_spots.nd)
      (qss_cons (qs_set 5 S_L_spots.nd (qe_fn (k_L_goes) (hr.mono (by omega)) c.g_law_goes (qa_cons (qe_dgetx (Tr.Room.u1 hr) (qv 1) (qe_ix it_seqx (qv 3) (qe_fn (k_L_take) (hr.mono (by omega)) c.g_law_take (qa_cons (qv 0) (qa_cons (qe_callB ct_len c.b_len (qa_cons (qv 3) qa_nil)) qa_nil))))) (qa_cons (qv 1) qa_nil))))
      (qss_one (qs_expr (qe_appendx (qv 2) (qa_cons (qe_callB (ct_max2 rfl) c.b_max (qa_cons qe_int (qa_cons (qe_op ot_add (qe_ix it_seqx (qv 5) (qe_fn (k_L_take) (hr.mono (by omega)) c.g_law_take (qa_cons (qv 0) (qa_cons (qe_callB ct_len c.b_len (qa_cons (qv 5) qa_nil)) qa_nil)))) (qe_ix it_seqx (qe_lst (qa_cons qe_int (qa_cons qe_int (qa_cons qe_int (qa_cons qe_int (qa_cons qe_neg qa_nil)))))) (qe_fn (k_L_take) (hr.mono (by omega)) c.g_law_take (qa_cons (qv 0) (qa_cons qe_int qa_nil))))) qa_nil))) qa_nil))))))
      (qss_one (qs_ret (qe_sealx (qv 2)))))))), ?_⟩
  rintro ts M Q hl ⟨p, a, rfl, hp, ha, tl, q⟩
  have pa : p ≠ a := fun e => by
    obtain ⟨_, _, _, h, _⟩ := hp
    rw [e, ha] at h
    cases h
  refine ⟨rfl, cl_of ⟨p, 5000, rfl, hp, by decide, by decide, fun x0 M1 x00 x01 p1 o1 => ?_⟩⟩
  refine ⟨Nat.le_of_ble_eq_true rfl, fun l hl1 => ?_⟩
  have pl : p ≠ l := ne_free p1.ex.choose_spec.choose_spec.choose_spec.1 hl1
  have ha1 : M1 a = some (.dic .un (llT L)) := (o1 a (Ne.symm pa)).trans ha
  have al : a ≠ l := ne_free ha1 hl1
  have ek : (llT L).map (·.1) = (L.map (·.1)).map Sum.inr := by unfold llT; rw [List.map_map, List.map_map]; rfl
  have h5 := tl.few
  refine ⟨_, _, _, rfl, (mset_ne al).trans ha1, L.map (·.1), ek, by rw [List.length_map]; omega, fun ms pm so => ?_⟩
  have lay : ∀ x ∈ ms, PyData.canLay0 (.str x) = true := fun x hx => by
    obtain ⟨cx, hcx⟩ := lget_some (pm.mem_iff.mp hx)
    rw [PyData.canLay0]
    exact word_ok (tl.wd x cx hcx)
  have ml : ms.length = L.length := by rw [pm.length_eq, List.length_map]
  refine ⟨Nat.le_of_ble_eq_true rfl, ms, rfl, lay, .inl (by decide), ?_⟩
  have jb : ∀ b : Bool, -(2 ^ 62) ≤ (7 * (if b = true then (1 : Int) else 0)) ∧ (7 * (if b = true then (1 : Int) else 0)) < 2 ^ 62 ∧ (7 * (if b = true then (1 : Int) else 0)).toNat ≤ 7 := fun b => by cases b <;> decide
  have je : ∀ k, k < (7 * (if (!ms.isEmpty) = true then (1 : Int) else 0)).toNat → ms ≠ [] := fun k hk w => by
    rw [w] at hk
    exact absurd hk (Nat.not_lt_zero _)
  refine ⟨(jb _).1, (jb _).2.1, ?_⟩
  refine ⟨fun k s' M' => ∃ (xs : List Int) (o1 o2 : Option T), M' l = some (.lst (intsT xs)) ∧ (∀ m ∈ xs, 0 ≤ m ∧ m ≤ 1000000000) ∧ xs.length = k + 1 ∧ PotAt M' p ∧ (∀ x, x ≠ p → x ≠ l → M' x = M x) ∧ s' = [some (.adr p), some (.adr a), some (.adr l), some (.lst (strsT1 ms)), o1, o2],
    ⟨[x0], none, none, mset_same, fun m hm => by rw [List.mem_singleton.mp hm]; exact ⟨x00, by omega⟩, rfl, ?_, fun x h1 h2 => (mset_ne h2).trans (o1 x h1), rfl⟩, fun _ _ _ _ => kT, ?_, ?_⟩
  · obtain ⟨u, b, i, g1, g2⟩ := p1
    exact ⟨u, b, i, (mset_ne pl).trans g1, g2⟩
  · rintro k s' M' t et ⟨xs, u1, u2, h1, h2, h3, h4, h5', rfl⟩
    obtain ⟨hk, _⟩ := List.getElem?_eq_some_iff.mp et
    rw [rngT_len] at hk
    have ne := je k hk
    have k7 : k < 7 := Nat.lt_of_lt_of_le hk (jb _).2.2
    have hpos : 0 < ms.length := List.length_pos_iff.mpr ne
    have ha' : M' a = some (.dic .un (llT L)) := (h5' a (Ne.symm pa) al).trans ha
    refine ⟨rfl, cl_of ⟨p, _, rfl, h4, by rw [List.length_map]; omega, by rw [List.length_map]; omega, fun j M2 j0 j1 p2 o2 => ?_⟩⟩
    rw [List.length_map] at j1
    have hj : j.toNat < ms.length := by omega
    have get : tget (strsT1 ms) j = some (.str ms[j.toNat]) := by
      unfold tget
      rw [if_pos j0, List.getElem?_map, List.getElem?_eq_getElem hj]
      rfl
    obtain ⟨cc, hcc⟩ := lget_some (pm.mem_iff.mp (List.getElem_mem hj))
    obtain ⟨z, ez, okz, wz⟩ := tl.full _ cc hcc
    have ez : (lget ms[j.toNat] L).bind (exp L 29) = some z := ez
    rw [hcc] at ez
    have ha2 : M2 a = some (.dic .un (llT L)) := (o2 a (Ne.symm pa)).trans ha'
    refine ⟨_, _, _, .inl rfl, rfl, get, .un, _, _, ha2, rfl, lcT cc, by rw [kget_ll, hcc]; rfl, rfl, cl_of ⟨a, .un, cc, z, rfl, ha2, exp_up (show exp L 29 cc = some z from ez), okz, by omega, fun ns g => ?_⟩⟩
    have gf := g.few
    have gp : 0 < ns.length := List.length_pos_iff.mpr g.ne
    have hl2 : M2 l = some (.lst (intsT xs)) := (o2 l (Ne.symm pl)).trans h1
    refine ⟨⟨l, _, rfl, hl2, trivial⟩, rfl, cl_of ⟨p, _, rfl, p2, by rw [List.length_map]; omega, by rw [List.length_map]; omega, fun i M3 i0 i1 p3 o3 => ?_⟩⟩
    rw [List.length_map] at i1
    have hi : i.toNat < ns.length := by omega
    have geti : tget (intsT ns) i = some (.int ns[i.toNat]) := by
      unfold tget
      rw [if_pos i0, List.getElem?_map, List.getElem?_eq_getElem hi]
      rfl
    refine ⟨_, _, _, .inl rfl, rfl, geti, Nat.le_of_ble_eq_true rfl, rfl, cl_of ⟨p, 5, rfl, p3, by decide, by decide, fun e M4 e0 e1 p4 o4 => ?_⟩⟩
    have pick : ∃ m : Int, m ≤ 1 ∧ tget [T.int 0, .int 0, .int 0, .int 1, .int (-1)] e = some (.int m) := by
      have : e = 0 ∨ e = 1 ∨ e = 2 ∨ e = 3 ∨ e = 4 := by omega
      rcases this with rfl | rfl | rfl | rfl | rfl
      · exact ⟨0, by decide, rfl⟩
      · exact ⟨0, by decide, rfl⟩
      · exact ⟨0, by decide, rfl⟩
      · exact ⟨1, by decide, rfl⟩
      · exact ⟨-1, by decide, rfl⟩
    obtain ⟨m, m1, em⟩ := pick
    have o24 : Oth p M' M4 := (o2.trans o3).trans o4
    have hl4 : M4 l = some (.lst (intsT xs)) := (o24 l (Ne.symm pl)).trans h1
    refine ⟨_, _, _, .inl rfl, rfl, em, trivial, l, _, rfl, hl4, by rw [List.length_map]; omega, ?_⟩
    have mx : ∀ x : Int, x ≤ 1000000000 → 0 ≤ (if x > 0 then x else 0) ∧ (if x > 0 then x else 0) ≤ 1000000000 := fun x hx => by split <;> omega
    have gi := g.hi _ (List.getElem_mem hi)
    refine ⟨xs ++ [_], _, _, by rw [mset_same, show ∀ x : Int, intsT (xs ++ [x]) = intsT xs ++ [.int x] from fun x => List.map_append], fun y hy => ?_, by rw [List.length_append, h3]; rfl, ?_, fun y ha hb => (mset_ne hb).trans ((o24 y ha).trans (h5' y ha hb)), rfl⟩
    · rcases List.mem_append.mp hy with hy | hy
      · exact h2 y hy
      · rw [List.mem_singleton.mp hy]
        exact mx _ (by dsimp only; omega)
    · obtain ⟨u, b, i, g1, g2⟩ := p4
      exact ⟨u, b, i, (mset_ne pl).trans g1, g2⟩
  · rintro s' M' ⟨xs, u1, u2, h1, h2, h3, h4, h5', rfl⟩
    rw [rngT_len] at h3
    have := (jb (!ms.isEmpty)).2.2
    refine ⟨l, _, rfl, h1, trivial, _, Msub.refl _, q xs _ h2 (by rw [h3]; exact Nat.succ_le_succ this) ?_ fun y hy => ?_⟩
    · obtain ⟨u, b, i, g1, g2⟩ := h4
      exact ⟨u, b, i, (mdel_ne pl).trans g1, g2⟩
    · by_cases e : y = l
      · rw [e, mdel_same]
        have e2 : M l = none := (o1 l (Ne.symm pl)).symm.trans hl1
        rw [e2]
      · rw [mdel_ne e]
        exact h5' y hy e
theorem kp_L_spotsx (c : Fx K mg)  : Kp P w K mg base ("_law_spots", none) 40 2 (fun ts M Q => ∃ L : Ln, (F_L_spots L) ts M Q) := by
  refine kp_defx (d := d_L_spots) c M_L_spots S_L_spots rfl (fun FD => FD.bindsN fun _ _ _ _ _ _ us hl => match us, hl with | [_, _], _ => rfl) fun L => ?_
  have k_L_take := kp_L_take (P := P) (w := w) (base := base) c
  have k_L_goes := L_goes_all (P := P) (w := w) (base := base) c L 30
  refine fun cdv A outer s H E hr => ⟨_, (
    (qss_cons (qs_set 2 S_L_spots.nd (qe_lstO (qa_cons (qe_fn (k_L_take) (hr.mono (by omega)) c.g_law_take (qa_cons (qv 0) (qa_cons qe_int qa_nil))) qa_nil)))
      (qss_cons (qs_set 3 S_L_spots.nd (qe_callB (ct_sortDx rfl) c.b_sorted (qa_cons (qv 1) qa_nil)))
      (qss_cons (qs_for PassesOwn.never rfl (qi_range1 (qa_cons (qe_op ot_mul qe_int (qe_callTy ct_intB c.b_int (qa_cons (qe_cmp (ot_neNil hr.units) (qv 3) (qe_lst qa_nil)) qa_nil))) qa_nil) (by rfl) c.b_range) (qg_name 4 S_L_spots.nd)
      (qss_cons (qs_set 5 S_L_spots.nd (qe_fn (k_L_goes) (hr.mono (by omega)) c.g_law_goes (qa_cons (qe_dgetx (Tr.Room.u1 hr) (qv 1) (qe_ix it_seqx (qv 3) (qe_fn (k_L_take) (hr.mono (by omega)) c.g_law_take (qa_cons (qv 0) (qa_cons (qe_callB ct_len c.b_len (qa_cons (qv 3) qa_nil)) qa_nil))))) (qa_cons (qv 1) qa_nil))))
      (qss_one (qs_expr (qe_appendx (qv 2) (qa_cons (qe_callB (ct_max2 rfl) c.b_max (qa_cons qe_int (qa_cons (qe_op ot_add (qe_ix it_seqx (qv 5) (qe_fn (k_L_take) (hr.mono (by omega)) c.g_law_take (qa_cons (qv 0) (qa_cons (qe_callB ct_len c.b_len (qa_cons (qv 5) qa_nil)) qa_nil)))) (qe_ix it_seqx (qe_lst (qa_cons qe_int (qa_cons qe_int (qa_cons qe_int (qa_cons qe_int (qa_cons qe_neg qa_nil)))))) (qe_fn (k_L_take) (hr.mono (by omega)) c.g_law_take (qa_cons (qv 0) (qa_cons qe_int qa_nil))))) qa_nil))) qa_nil))))))
      (qss_one (qs_ret (qe_sealx (qv 2)))))))), ?_⟩
  rintro ts M Q hl ⟨p, a, rfl, hp, ha, tl, q⟩
  have pa : p ≠ a := fun e => by
    obtain ⟨_, _, _, h, _⟩ := hp
    rw [e, ha] at h
    cases h
  refine ⟨rfl, cl_of ⟨p, 5000, rfl, hp, by decide, by decide, fun x0 M1 x00 x01 p1 o1 => ?_⟩⟩
  refine ⟨Nat.le_of_ble_eq_true rfl, fun l hl1 => ?_⟩
  have pl : p ≠ l := ne_free p1.ex.choose_spec.choose_spec.choose_spec.1 hl1
  have ha1 : M1 a = some (.dic .un (llT L)) := (o1 a (Ne.symm pa)).trans ha
  have al : a ≠ l := ne_free ha1 hl1
  have ek : (llT L).map (·.1) = (L.map (·.1)).map Sum.inr := by unfold llT; rw [List.map_map, List.map_map]; rfl
  have h5 := tl.few
  refine ⟨_, _, _, rfl, (mset_ne al).trans ha1, L.map (·.1), ek, by rw [List.length_map]; omega, fun ms pm so => ?_⟩
  have lay : ∀ x ∈ ms, PyData.canLay0 (.str x) = true := fun x hx => by
    obtain ⟨cx, hcx⟩ := lget_some (pm.mem_iff.mp hx)
    rw [PyData.canLay0]
    exact word_ok (tl.wd x cx hcx)
  have ml : ms.length = L.length := by rw [pm.length_eq, List.length_map]
  refine ⟨Nat.le_of_ble_eq_true rfl, ms, rfl, lay, .inl (by decide), ?_⟩
  have jb : ∀ b : Bool, -(2 ^ 62) ≤ (7 * (if b = true then (1 : Int) else 0)) ∧ (7 * (if b = true then (1 : Int) else 0)) < 2 ^ 62 ∧ (7 * (if b = true then (1 : Int) else 0)).toNat ≤ 7 := fun b => by cases b <;> decide
  have je : ∀ k, k < (7 * (if (!ms.isEmpty) = true then (1 : Int) else 0)).toNat → ms ≠ [] := fun k hk w => by
    rw [w] at hk
    exact absurd hk (Nat.not_lt_zero _)
  refine ⟨(jb _).1, (jb _).2.1, ?_⟩
  refine ⟨fun k s' M' => ∃ (xs : List Int) (o1 o2 : Option T), M' l = some (.lst (intsT xs)) ∧ (∀ m ∈ xs, 0 ≤ m ∧ m ≤ 1000000000) ∧ xs.length = k + 1 ∧ PotAt M' p ∧ (∀ x, x ≠ p → x ≠ l → M' x = M x) ∧ s' = [some (.adr p), some (.adr a), some (.adr l), some (.lst (strsT1 ms)), o1, o2],
    ⟨[x0], none, none, mset_same, fun m hm => by rw [List.mem_singleton.mp hm]; exact ⟨x00, by omega⟩, rfl, ?_, fun x h1 h2 => (mset_ne h2).trans (o1 x h1), rfl⟩, fun _ _ _ _ => kT, ?_, ?_⟩
  · obtain ⟨u, b, i, g1, g2⟩ := p1
    exact ⟨u, b, i, (mset_ne pl).trans g1, g2⟩
  · rintro k s' M' t et ⟨xs, u1, u2, h1, h2, h3, h4, h5', rfl⟩
    obtain ⟨hk, _⟩ := List.getElem?_eq_some_iff.mp et
    rw [rngT_len] at hk
    have ne := je k hk
    have k7 : k < 7 := Nat.lt_of_lt_of_le hk (jb _).2.2
    have hpos : 0 < ms.length := List.length_pos_iff.mpr ne
    have ha' : M' a = some (.dic .un (llT L)) := (h5' a (Ne.symm pa) al).trans ha
    refine ⟨rfl, cl_of ⟨p, _, rfl, h4, by rw [List.length_map]; omega, by rw [List.length_map]; omega, fun j M2 j0 j1 p2 o2 => ?_⟩⟩
    rw [List.length_map] at j1
    have hj : j.toNat < ms.length := by omega
    have get : tget (strsT1 ms) j = some (.str ms[j.toNat]) := by
      unfold tget
      rw [if_pos j0, List.getElem?_map, List.getElem?_eq_getElem hj]
      rfl
    obtain ⟨cc, hcc⟩ := lget_some (pm.mem_iff.mp (List.getElem_mem hj))
    obtain ⟨z, ez, okz, wz⟩ := tl.full _ cc hcc
    have ez : (lget ms[j.toNat] L).bind (exp L 29) = some z := ez
    rw [hcc] at ez
    have ha2 : M2 a = some (.dic .un (llT L)) := (o2 a (Ne.symm pa)).trans ha'
    refine ⟨_, _, _, .inl rfl, rfl, get, .un, _, _, ha2, rfl, lcT cc, by rw [kget_ll, hcc]; rfl, rfl, cl_of ⟨a, .un, cc, z, rfl, ha2, exp_up (show exp L 29 cc = some z from ez), okz, by omega, fun ns g => ?_⟩⟩
    have gf := g.few
    have gp : 0 < ns.length := List.length_pos_iff.mpr g.ne
    have hl2 : M2 l = some (.lst (intsT xs)) := (o2 l (Ne.symm pl)).trans h1
    refine ⟨⟨l, _, rfl, hl2, trivial⟩, rfl, cl_of ⟨p, _, rfl, p2, by rw [List.length_map]; omega, by rw [List.length_map]; omega, fun i M3 i0 i1 p3 o3 => ?_⟩⟩
    rw [List.length_map] at i1
    have hi : i.toNat < ns.length := by omega
    have geti : tget (intsT ns) i = some (.int ns[i.toNat]) := by
      unfold tget
      rw [if_pos i0, List.getElem?_map, List.getElem?_eq_getElem hi]
      rfl
    refine ⟨_, _, _, .inl rfl, rfl, geti, Nat.le_of_ble_eq_true rfl, rfl, cl_of ⟨p, 5, rfl, p3, by decide, by decide, fun e M4 e0 e1 p4 o4 => ?_⟩⟩
    have pick : ∃ m : Int, m ≤ 1 ∧ tget [T.int 0, .int 0, .int 0, .int 1, .int (-1)] e = some (.int m) := by
      have : e = 0 ∨ e = 1 ∨ e = 2 ∨ e = 3 ∨ e = 4 := by omega
      rcases this with rfl | rfl | rfl | rfl | rfl
      · exact ⟨0, by decide, rfl⟩
      · exact ⟨0, by decide, rfl⟩
      · exact ⟨0, by decide, rfl⟩
      · exact ⟨1, by decide, rfl⟩
      · exact ⟨-1, by decide, rfl⟩
    obtain ⟨m, m1, em⟩ := pick
    have o24 : Oth p M' M4 := (o2.trans o3).trans o4
    have hl4 : M4 l = some (.lst (intsT xs)) := (o24 l (Ne.symm pl)).trans h1
    refine ⟨_, _, _, .inl rfl, rfl, em, trivial, l, _, rfl, hl4, by rw [List.length_map]; omega, ?_⟩
    have mx : ∀ x : Int, x ≤ 1000000000 → 0 ≤ (if x > 0 then x else 0) ∧ (if x > 0 then x else 0) ≤ 1000000000 := fun x hx => by split <;> omega
    have gi := g.hi _ (List.getElem_mem hi)
    refine ⟨xs ++ [_], _, _, by rw [mset_same, show ∀ x : Int, intsT (xs ++ [x]) = intsT xs ++ [.int x] from fun x => List.map_append], fun y hy => ?_, by rw [List.length_append, h3]; rfl, ?_, fun y ha hb => (mset_ne hb).trans ((o24 y ha).trans (h5' y ha hb)), rfl⟩
    · rcases List.mem_append.mp hy with hy | hy
      · exact h2 y hy
      · rw [List.mem_singleton.mp hy]
        exact mx _ (by dsimp only; omega)
    · obtain ⟨u, b, i, g1, g2⟩ := p4
      exact ⟨u, b, i, (mset_ne pl).trans g1, g2⟩
  · rintro s' M' ⟨xs, u1, u2, h1, h2, h3, h4, h5', rfl⟩
    rw [rngT_len] at h3
    have := (jb (!ms.isEmpty)).2.2
    refine ⟨l, _, rfl, h1, trivial, _, Msub.refl _, q xs _ h2 (by rw [h3]; exact Nat.succ_le_succ this) ?_ fun y hy => ?_⟩
    · obtain ⟨u, b, i, g1, g2⟩ := h4
      exact ⟨u, b, i, (mdel_ne pl).trans g1, g2⟩
    · by_cases e : y = l
      · rw [e, mdel_same]
        have e2 : M l = none := (o1 l (Ne.symm pl)).symm.trans hl1
        rw [e2]
      · rw [mdel_ne e]
        exact h5' y hy e
end
end Tr

set_option Elab.async false
set_option linter.all false
set_option maxRecDepth 100000
set_option maxHeartbeats 4000000
namespace Tr
open PySem PySem.Spec L2
/-- closed under what the lines name -/
def Clo (L : Ln) (out : List Str) : Prop := ∀ k ∈ out, ∀ c, lget k L = some c → ∀ j ∈ c.names, j ∈ out
def cnt (L : Ln) (out : List Str) : Nat := ((L.map (·.1)).filter fun k => decide (k ∈ out)).length
theorem filt_le {l : List Str} {a b : List Str} (h : ∀ k ∈ a, k ∈ b) : (l.filter fun k => decide (k ∈ a)).length ≤ (l.filter fun k => decide (k ∈ b)).length := by
  induction l with
  | nil => exact Nat.le_refl _
  | cons x r ih =>
    rw [List.filter_cons, List.filter_cons]
    by_cases hx : x ∈ a
    · rw [if_pos (decide_eq_true hx), if_pos (decide_eq_true (h x hx)), List.length_cons, List.length_cons]
      omega
    · rw [if_neg (by simpa using hx)]
      by_cases hb : x ∈ b
      · rw [if_pos (decide_eq_true hb), List.length_cons]; omega
      · rw [if_neg (by simpa using hb)]; exact ih
theorem filt_lt {l : List Str} {a b : List Str} (h : ∀ k ∈ a, k ∈ b) {j : Str} (hl : j ∈ l) (ha : j ∉ a) (hb : j ∈ b) : (l.filter fun k => decide (k ∈ a)).length + 1 ≤ (l.filter fun k => decide (k ∈ b)).length := by
  induction l with
  | nil => cases hl
  | cons x r ih =>
    rw [List.filter_cons, List.filter_cons]
    by_cases e : x = j
    · subst e
      rw [if_neg (by simpa using ha), if_pos (decide_eq_true hb), List.length_cons]
      have := filt_le (l := r) h
      omega
    · have hl2 : j ∈ r := by
        rcases List.mem_cons.mp hl with z | z
        · exact absurd z.symm e
        · exact z
      have ih := ih hl2
      by_cases hx : x ∈ a
      · rw [if_pos (decide_eq_true hx), if_pos (decide_eq_true (h x hx)), List.length_cons, List.length_cons]
        omega
      · rw [if_neg (by simpa using hx)]
        by_cases hb2 : x ∈ b
        · rw [if_pos (decide_eq_true hb2), List.length_cons]; omega
        · rw [if_neg (by simpa using hb2)]; exact ih
theorem cnt_le {L : Ln} {a : List Str} : cnt L a ≤ L.length := by
  unfold cnt
  refine Nat.le_trans (List.length_filter_le _ _) ?_
  rw [List.length_map]
  exact Nat.le_refl _
theorem lget_key {k : Str} {c : LC} {L : Ln} (h : lget k L = some c) : k ∈ L.map (·.1) := List.mem_map.mpr ⟨(k, c), lget_mem h, rfl⟩
/-- one round -/
theorem clo_or {L : Ln} {a b : List Str} (h : ∀ k ∈ a, k ∈ b) (hn : ∀ k ∈ a, ∀ c, lget k L = some c → ∀ j ∈ c.names, j ∈ b) (hc : Clo L a → ∀ k ∈ b, k ∈ a) (hd : ∀ k ∈ b, ∃ c, lget k L = some c) : Clo L b ∨ cnt L a + 1 ≤ cnt L b := by
  by_cases z : Clo L a
  · left
    intro k hk c hkc j hj
    exact h j (z k (hc z k hk) c hkc j hj)
  · right
    have ex : ∃ k, k ∈ a ∧ ∃ c, lget k L = some c ∧ ∃ j, j ∈ c.names ∧ j ∉ a := by
      refine Classical.byContradiction fun w => z fun k hk c hkc j hj => ?_
      refine Classical.byContradiction fun y => w ⟨k, hk, c, hkc, j, hj, y⟩
    obtain ⟨k, hk, c, hkc, j, hj, hja⟩ := ex
    have hjb := hn k hk c hkc j hj
    obtain ⟨c', hc'⟩ := hd j hjb
    exact filt_lt h (lget_key hc') hja hjb
end Tr

set_option Elab.async false
set_option linter.all false
set_option maxRecDepth 100000
set_option maxHeartbeats 4000000
namespace Tr
open PySem PySem.Spec L2


section
variable {P : Program} {w : World} {K : PySem.W.Frag} {mg : Str → Option Value} {base : Heap}

structure Belows (L : Ln) : Prop where
  few : L.length ≤ 5
  low : ∀ k c, lget k L = some c → c.ht < 3 ∧ c.wt ≤ 7
  defd : ∀ k c, lget k L = some c → ∀ j ∈ c.names, ∃ c', lget j L = some c'
def InL (L : Ln) (out : List Str) : Prop := ∀ k ∈ out, ∃ c, lget k L = some c
def F_L_below (L : Ln) : TSpec := fun ts M Q => ∃ a lk nm cc, ts = [.adr a, .str nm] ∧ M a = some (.dic lk (llT L)) ∧ Belows L ∧ lget nm L = some cc ∧ ∀ out, nm ∈ out → Clo L out → out.length ≤ 100 → Q (.lst (strsT1 out)) M
def newN (out ns : List Str) : List Str := ns.filter fun j => !decide (j ∈ out)
theorem newN_mem {out ns : List Str} {j : Str} : j ∈ newN out ns ↔ j ∈ ns ∧ j ∉ out := by
  unfold newN
  rw [List.mem_filter]
  simp
theorem newN_len {L : Ln} {out ns : List Str} (h : out.length ≤ 8 * cnt L out) (h7 : ns.length ≤ 7) (hd : InL L ns) : (out ++ newN out ns).length ≤ 8 * cnt L (out ++ newN out ns) := by
  cases e : newN out ns with
  | nil => rw [List.append_nil]; exact h
  | cons j r =>
    have hj : j ∈ newN out ns := by rw [e]; exact List.mem_cons_self
    obtain ⟨h1, h2⟩ := newN_mem.1 hj
    obtain ⟨c', hc'⟩ := hd j h1
    have lt : cnt L out + 1 ≤ cnt L (out ++ newN out ns) := filt_lt (fun k hk => List.mem_append_left _ hk) (lget_key hc') h2 (List.mem_append_right _ hj)
    have le : (newN out ns).length ≤ ns.length := List.length_filter_le _ _
    rw [← e, List.length_append]
    omega
theorem newN_T (out ns : List Str) : ((strsT1 ns).filter fun t => match t with | .str j => !decide (j ∈ out) | _ => false) = strsT1 (newN out ns) := by
  unfold strsT1 newN
  rw [List.filter_map]
  rfl
theorem kp_L_below (c : Fx K mg) {L : Ln} : Kp P w K mg base ("_law_below", none) 45 2 (F_L_below L) := by
  have k_L_names_in := L_names_all (P := P) (w := w) (base := base) c 40
  refine kp_def (d := d_L_below) c M_L_below S_L_below rfl (fun FD => FD.bindsN fun _ _ _ _ _ _ us hl => match us, hl with | [_, _], _ => rfl) fun cdv A outer s H E hr => ⟨_, (
    (qss_cons (qs_set 2 S_L_below.nd (qe_lst (qa_cons (qv 1) qa_nil)))
      (qss_cons (qs_for PassesOwn.never rfl (qi_range1 (qa_cons qe_int qa_nil) (by rfl) c.b_range) (qg_name 3 S_L_below.nd)
      (qss_one (qs_for PassesOwn.never rfl (qi_lst (qe_callTy ct_list c.b_list (qa_cons (qv 2) qa_nil))) (qg_name 4 S_L_below.nd)
      (qss_one (qs_set 2 S_L_below.nd (qe_op ot_catL (qv 2) (qe_lc1 5 rfl S_L_below.nd (qi_lst (qe_fn (k_L_names_in) (hr.mono (by omega)) c.g_law_names_in (qa_cons (qe_dgetx (Tr.Room.u1 hr) (qv 0) (qv 4)) qa_nil))) (blkOk_by (by rfl)) (fun s H C cl fp => qts_one (qt_cmp ot_notIn (qv 5) (qv 2))) (fun s H C cl fp => (qv 5)))))))))
      (qss_one (qs_ret (qv 2)))))), ?_⟩
  rintro ts M Q hl ⟨a, lk, nm, cc, rfl, ha, ok, hnm, q⟩
  have h5 := ok.few
  refine ⟨Nat.le_of_ble_eq_true rfl, by decide, by decide, ?_⟩
  refine ⟨fun k s' M' => M' = M ∧ ∃ (out : List Str) (o1 o2 : Option T), s' = [some (.adr a), some (.str nm), some (.lst (strsT1 out)), o1, o2, none] ∧ nm ∈ out ∧ InL L out ∧ out.length ≤ 8 * cnt L out ∧ (Clo L out ∨ k + 1 ≤ cnt L out),
    ⟨rfl, [nm], none, none, rfl, List.mem_cons_self, fun k hk => by rw [List.mem_singleton.mp hk]; exact ⟨cc, hnm⟩, ?_, .inr ?_⟩, fun _ _ _ _ => kT, ?_, ?_⟩
  · have : cnt L [] + 1 ≤ cnt L [nm] := filt_lt (fun k hk => by cases hk) (lget_key hnm) (fun h => by cases h) List.mem_cons_self
    show 1 ≤ _
    omega
  · have : cnt L [] + 1 ≤ cnt L [nm] := filt_lt (fun k hk => by cases hk) (lget_key hnm) (fun h => by cases h) List.mem_cons_self
    omega
  · rintro k s' M' t et ⟨rfl, F0, o1, o2, rfl, h1, h2, h3, h4⟩
    refine ⟨fun i s' M'' => M'' = M' ∧ ∃ (out : List Str) (o2 : Option T), s' = [some (.adr a), some (.str nm), some (.lst (strsT1 out)), some t, o2, none] ∧ (∀ k ∈ F0, k ∈ out) ∧ (∀ k ∈ F0.take i, ∀ c, lget k L = some c → ∀ j ∈ c.names, j ∈ out) ∧ (Clo L F0 → ∀ k ∈ out, k ∈ F0) ∧ InL L out ∧ out.length ≤ 8 * cnt L out,
      ⟨rfl, F0, o2, rfl, fun _ h => h, fun _ h => by simp at h, fun _ _ h => h, h2, h3⟩, fun _ _ _ _ => kT, ?_, ?_⟩
    · rintro i s' M'' t2 et2 ⟨rfl, out, o3, rfl, g1, g2, g3, g4, g5⟩
      rw [List.getElem?_map] at et2
      obtain ⟨x, hx, rfl⟩ := Option.map_eq_some_iff.mp et2
      have mx := List.mem_of_getElem? hx
      obtain ⟨cx, hcx⟩ := h2 x mx
      have lw := ok.low x cx hcx
      have nl := names_len cx
      have cl := cnt_le (L := L) (a := out)
      refine ⟨lk, _, _, ha, rfl, lcT cx, by rw [kget_ll, hcx]; rfl, rfl, cl_of ⟨cx, rfl, by omega, by omega, ?_⟩⟩
      refine lc_filt (ts := strsT1 cx.names) (M1 := M'') (fun t => match t with | .str j => !decide (j ∈ out) | _ => false) (fun t => t) kT (by rw [List.length_map]; omega) (fun t ht => ?_) ?_
      · obtain ⟨j, hj, rfl⟩ := List.mem_map.mp ht
        refine ⟨_, rfl, fun Q' q' => ⟨flatS _, ?_⟩, fun _ Q' q' => q'⟩
        show Q' (!inS j (strsT1 out)) M''
        rw [inS_map]
        exact q'
      · rw [List.map_id', newN_T]
        have ln := newN_len g5 (by omega : cx.names.length ≤ 7) (fun j hj => ok.defd x cx hcx j hj)
        have cl2 := cnt_le (L := L) (a := out ++ newN out cx.names)
        rw [List.length_append] at ln
        refine ⟨by rw [List.length_map, List.length_map]; omega, rfl, out ++ newN out cx.names, _, by rw [show strsT1 (out ++ newN out cx.names) = strsT1 out ++ strsT1 (newN out cx.names) from List.map_append]; rfl, fun k hk => List.mem_append_left _ (g1 k hk), fun k hk c2 hc2 j hj => ?_, fun z k hk => ?_, fun k hk => ?_, by rw [List.length_append]; exact ln⟩
        · rw [take_next hx] at hk
          rcases List.mem_append.mp hk with hk | hk
          · exact List.mem_append_left _ (g2 k hk c2 hc2 j hj)
          · rw [List.mem_singleton.mp hk, hcx] at hc2
            cases hc2
            by_cases w : j ∈ out
            · exact List.mem_append_left _ w
            · exact List.mem_append_right _ (newN_mem.2 ⟨hj, w⟩)
        · rcases List.mem_append.mp hk with hk | hk
          · exact g3 z k hk
          · exact z x mx cx hcx k (newN_mem.1 hk).1
        · rcases List.mem_append.mp hk with hk | hk
          · exact g4 k hk
          · exact ok.defd x cx hcx k (newN_mem.1 hk).1
    · rintro s' M'' ⟨rfl, out, o3, rfl, g1, g2, g3, g4, g5⟩
      rw [List.length_map, List.take_length] at g2
      refine ⟨rfl, out, _, _, rfl, g1 nm h1, g4, g5, ?_⟩
      rcases clo_or g1 g2 g3 g4 with z | z
      · exact .inl z
      · rcases h4 with y | y
        · exact .inl fun k hk cK hcK j hj => g1 j (y k (g3 y k hk) cK hcK j hj)
        · exact .inr (by omega)
  · rintro s' M' ⟨rfl, out, o1, o2, rfl, h1, h2, h3, h4⟩
    rw [rngT_len] at h4
    have cl := cnt_le (L := L) (a := out)
    refine ⟨M', Msub.refl M', q out h1 ?_ (by omega)⟩
    rcases h4 with y | y
    · exact y
    · have y : 5 + 1 ≤ cnt L out := y
      omega
end
end Tr

set_option Elab.async false
set_option linter.all false
set_option maxRecDepth 100000
set_option maxHeartbeats 4000000
namespace Tr
open PySem PySem.Spec L2


section
variable {P : Program} {w : World} {K : PySem.W.Frag} {mg : Str → Option Value} {base : Heap}

def Apart (L : Ln) (nm k : Str) : Prop := (∃ c, lget k L = some c) ∧ ∃ S : List Str, k ∈ S ∧ Clo L S ∧ nm ∉ S
def F_L_free (L : Ln) : TSpec := fun ts M Q => ∃ a lk nm names, ts = [.adr a, .str nm, .lst (strsT1 names)] ∧ M a = some (.dic lk (llT L)) ∧ Belows L ∧ names.length ≤ 5 ∧ ∀ out, (∀ k ∈ out, k ∈ names ∧ Apart L nm k) → out.length ≤ 5 → Q (.lst (strsT1 out)) M
theorem kp_L_free (c : Fx K mg) {L : Ln} : Kp P w K mg base ("_law_free", none) 46 3 (F_L_free L) := by
  have k_L_below := kp_L_below (P := P) (w := w) (base := base) c (L := L)
  refine kp_def (d := d_L_free) c M_L_free S_L_free rfl (fun FD => FD.bindsN fun _ _ _ _ _ _ us hl => match us, hl with | [_, _, _], _ => rfl) fun cdv A outer s H E hr => ⟨_, (
    (qss_one (qs_ret (qe_lc1 3 rfl S_L_free.nd (qi_lst (qv 2)) (blkOk_by (by rfl)) (fun s H C cl fp => qts_one (QW.qt (qw_and (qt_dinx (Tr.Room.u1 hr) (qv 3) (qv 0)) (qw_and1 (qt_cmp ot_notIn (qv 1) (qe_fn (k_L_below) (hr.mono (by omega)) c.g_law_below (qa_cons (qv 0) (qa_cons (qv 3) qa_nil)))))))) (fun s H C cl fp => (qv 3)))))), ?_⟩
  rintro ts M Q hl ⟨a, lk, nm, names, rfl, ha, ok, h5, q⟩
  refine ⟨fun k acc M' => M' = M ∧ ∃ out : List Str, acc = strsT1 out ∧ (∀ k ∈ out, k ∈ names ∧ Apart L nm k) ∧ out.length ≤ k, ⟨rfl, [], rfl, fun _ h => (by cases h), Nat.le_refl _⟩, fun _ _ _ _ => kT, ?_, ?_⟩
  · rintro k acc M' t et ⟨rfl, out, rfl, h1, h2⟩
    rw [List.getElem?_map] at et
    obtain ⟨x, hx, rfl⟩ := Option.map_eq_some_iff.mp et
    obtain ⟨hk, _⟩ := List.getElem?_eq_some_iff.mp hx
    refine ⟨_, rfl, lk, _, _, ha, rfl, ?_⟩
    rw [kget_ll]
    cases e : lget x L with
    | none => exact no rfl (no rfl ⟨rfl, out, rfl, h1, by omega⟩)
    | some cx =>
      refine yes rfl ⟨rfl, cl_of ⟨a, lk, x, cx, rfl, ha, ok, e, fun S hS clo _ => ⟨flatS _, ?_⟩⟩⟩
      show ((!inS nm (strsT1 S)) = true → _) ∧ ((!inS nm (strsT1 S)) = false → _)
      rw [inS_map]
      by_cases hin : nm ∈ S
      · exact non hin ⟨rfl, out, rfl, h1, by omega⟩
      · refine yesn hin ⟨by rw [List.length_map]; omega, rfl, out ++ [x], by rw [show strsT1 (out ++ [x]) = strsT1 out ++ [.str x] from List.map_append], fun j hj => ?_, by rw [List.length_append]; show out.length + 1 ≤ k + 1; omega⟩
        rcases List.mem_append.mp hj with hj | hj
        · exact h1 j hj
        · rw [List.mem_singleton.mp hj]
          exact ⟨List.mem_of_getElem? hx, ⟨cx, e⟩, S, hS, clo, hin⟩
  · rintro acc M' ⟨rfl, out, rfl, h1, h2⟩
    rw [List.length_map] at h2
    exact ⟨M', Msub.refl M', q out h1 (by omega)⟩
theorem kp_L_freex (c : Fx K mg)  : Kp P w K mg base ("_law_free", none) 46 3 (fun ts M Q => ∃ L : Ln, (F_L_free L) ts M Q) := by
  refine kp_defx (d := d_L_free) c M_L_free S_L_free rfl (fun FD => FD.bindsN fun _ _ _ _ _ _ us hl => match us, hl with | [_, _, _], _ => rfl) fun L => ?_
  have k_L_below := kp_L_below (P := P) (w := w) (base := base) c (L := L)
  refine fun cdv A outer s H E hr => ⟨_, (
    (qss_one (qs_ret (qe_lc1 3 rfl S_L_free.nd (qi_lst (qv 2)) (blkOk_by (by rfl)) (fun s H C cl fp => qts_one (QW.qt (qw_and (qt_dinx (Tr.Room.u1 hr) (qv 3) (qv 0)) (qw_and1 (qt_cmp ot_notIn (qv 1) (qe_fn (k_L_below) (hr.mono (by omega)) c.g_law_below (qa_cons (qv 0) (qa_cons (qv 3) qa_nil)))))))) (fun s H C cl fp => (qv 3)))))), ?_⟩
  rintro ts M Q hl ⟨a, lk, nm, names, rfl, ha, ok, h5, q⟩
  refine ⟨fun k acc M' => M' = M ∧ ∃ out : List Str, acc = strsT1 out ∧ (∀ k ∈ out, k ∈ names ∧ Apart L nm k) ∧ out.length ≤ k, ⟨rfl, [], rfl, fun _ h => (by cases h), Nat.le_refl _⟩, fun _ _ _ _ => kT, ?_, ?_⟩
  · rintro k acc M' t et ⟨rfl, out, rfl, h1, h2⟩
    rw [List.getElem?_map] at et
    obtain ⟨x, hx, rfl⟩ := Option.map_eq_some_iff.mp et
    obtain ⟨hk, _⟩ := List.getElem?_eq_some_iff.mp hx
    refine ⟨_, rfl, lk, _, _, ha, rfl, ?_⟩
    rw [kget_ll]
    cases e : lget x L with
    | none => exact no rfl (no rfl ⟨rfl, out, rfl, h1, by omega⟩)
    | some cx =>
      refine yes rfl ⟨rfl, cl_of ⟨a, lk, x, cx, rfl, ha, ok, e, fun S hS clo _ => ⟨flatS _, ?_⟩⟩⟩
      show ((!inS nm (strsT1 S)) = true → _) ∧ ((!inS nm (strsT1 S)) = false → _)
      rw [inS_map]
      by_cases hin : nm ∈ S
      · exact non hin ⟨rfl, out, rfl, h1, by omega⟩
      · refine yesn hin ⟨by rw [List.length_map]; omega, rfl, out ++ [x], by rw [show strsT1 (out ++ [x]) = strsT1 out ++ [.str x] from List.map_append], fun j hj => ?_, by rw [List.length_append]; show out.length + 1 ≤ k + 1; omega⟩
        rcases List.mem_append.mp hj with hj | hj
        · exact h1 j hj
        · rw [List.mem_singleton.mp hj]
          exact ⟨List.mem_of_getElem? hx, ⟨cx, e⟩, S, hS, clo, hin⟩
  · rintro acc M' ⟨rfl, out, rfl, h1, h2⟩
    rw [List.length_map] at h2
    exact ⟨M', Msub.refl M', q out h1 (by omega)⟩
end
end Tr

set_option Elab.async false
set_option linter.all false
set_option maxRecDepth 100000
set_option maxHeartbeats 4000000
namespace Tr
open PySem PySem.Spec L2
open Classical in
/-- the rank when nm is put: what reaches nm goes above all the rest -/
noncomputable def rankP (L : Ln) (r : Str → Nat) (nm : Str) (N : Nat) (k : Str) : Nat := r k + (if ∀ S : List Str, k ∈ S → Clo L S → nm ∈ S then N else 0)
/-- ranked by r: every name a line names is a line of less rank -/
def Ranked (L : Ln) (r : Str → Nat) : Prop := ∀ k c, lget k L = some c → ∀ j ∈ c.names, (∃ c', lget j L = some c') ∧ r j < r k
theorem rank_put {L : Ln} {r : Str → Nat} (h : Ranked L r) {nm : Str} {cc : LC} {N : Nat} (hN : ∀ j ∈ cc.names, r j < N) (ap : ∀ j ∈ cc.names, Apart L nm j) : Ranked (lput nm cc L) (rankP L r nm N) := by
  intro k c hk j hj
  rw [lget_put] at hk
  rw [lget_put]
  by_cases e : nm = k
  · rw [if_pos e] at hk
    cases hk
    obtain ⟨⟨c', hc'⟩, S, hS, clo, hn⟩ := ap j hj
    refine ⟨?_, ?_⟩
    · by_cases z : nm = j
      · exact ⟨_, if_pos z⟩
      · exact ⟨c', by rw [if_neg z]; exact hc'⟩
    · subst e
      unfold rankP
      rw [if_neg fun w => hn (w S hS clo), if_pos fun S h _ => h]
      have := hN j hj
      omega
  · rw [if_neg e] at hk
    obtain ⟨⟨c', hc'⟩, lt⟩ := h k c hk j hj
    refine ⟨?_, ?_⟩
    · by_cases z : nm = j
      · exact ⟨_, if_pos z⟩
      · exact ⟨c', by rw [if_neg z]; exact hc'⟩
    · unfold rankP
      by_cases w : ∀ S : List Str, k ∈ S → Clo L S → nm ∈ S
      · rw [if_pos w]
        split <;> omega
      · rw [if_neg w, if_neg fun y => w fun S h1 h2 => y S (h2 k h1 c hk j hj) h2]
        omega
theorem rank_drop {L : Ln} {r : Str → Nat} (h : Ranked L r) {nm : Str} (un : ∀ k c, lget k L = some c → nm ∉ c.names) : Ranked (ldrop nm L) r := by
  intro k c hk j hj
  rw [lget_drop] at hk
  by_cases e : k = nm
  · rw [if_pos e] at hk; cases hk
  · rw [if_neg e] at hk
    obtain ⟨⟨c', hc'⟩, lt⟩ := h k c hk j hj
    refine ⟨⟨c', ?_⟩, lt⟩
    rw [lget_drop, if_neg fun z => un k c hk (by rw [← z]; exact hj)]
    exact hc'
end Tr

set_option Elab.async false
set_option linter.all false
set_option maxRecDepth 100000
set_option maxHeartbeats 4000000
namespace Tr
open PySem PySem.Spec L2
theorem two_ex {f : LC → LC → LC} {o p : Option LC} (h : ∃ z, o = some z) (g : ∃ z, p = some z) : ∃ z, two f o p = some z := by
  obtain ⟨x, rfl⟩ := h
  obtain ⟨y, rfl⟩ := g
  exact ⟨_, rfl⟩
theorem ex_card {L : Ln} {n : Nat} (hn : 1 ≤ n) : ∀ c : LC, (∀ j ∈ c.names, ∃ z, exp L n (.as j) = some z) → ∃ z, exp L (n + c.ht) c = some z
  | .once s l, _ => by
    obtain ⟨m, rfl⟩ : ∃ m, n = m + 1 := ⟨n - 1, by omega⟩
    exact ⟨_, rfl⟩
  | .every d s l, _ => by
    obtain ⟨m, rfl⟩ : ∃ m, n = m + 1 := ⟨n - 1, by omega⟩
    exact ⟨_, rfl⟩
  | .as k, h => h k List.mem_cons_self
  | .later c m, h => by
    obtain ⟨z, hz⟩ := ex_card hn c h
    exact ⟨_, by show (exp L (n + c.ht) c).map (fun x => LC.later x m) = _; rw [hz]; rfl⟩
  | .noted c m, h => by
    obtain ⟨z, hz⟩ := ex_card hn c h
    exact ⟨_, by show (exp L (n + c.ht) c).map (fun x => LC.noted x m) = _; rw [hz]; rfl⟩
  | .less a b, h => by
    obtain ⟨x, hx⟩ := ex_card hn a fun j hj => h j (List.mem_append_left _ hj)
    obtain ⟨y, hy⟩ := ex_card hn b fun j hj => h j (List.mem_append_right _ hj)
    exact two_ex ⟨x, exp_le hx (by show n + a.ht ≤ n + max a.ht b.ht; omega)⟩ ⟨y, exp_le hy (by show n + b.ht ≤ n + max a.ht b.ht; omega)⟩
  | .swap a d b, h => by
    obtain ⟨x, hx⟩ := ex_card hn a fun j hj => h j (List.mem_append_left _ hj)
    obtain ⟨y, hy⟩ := ex_card hn b fun j hj => h j (List.mem_append_right _ hj)
    exact two_ex ⟨x, exp_le hx (by show n + a.ht ≤ n + max a.ht b.ht; omega)⟩ ⟨y, exp_le hy (by show n + b.ht ≤ n + max a.ht b.ht; omega)⟩
  | .join a b, h => by
    obtain ⟨x, hx⟩ := ex_card hn a fun j hj => h j (List.mem_append_left _ hj)
    obtain ⟨y, hy⟩ := ex_card hn b fun j hj => h j (List.mem_append_right _ hj)
    exact two_ex ⟨x, exp_le hx (by show n + a.ht ≤ n + max a.ht b.ht; omega)⟩ ⟨y, exp_le hy (by show n + b.ht ≤ n + max a.ht b.ht; omega)⟩

theorem ex_line {L : Ln} {r : Str → Nat} (h : Ranked L r) (low : ∀ k c, lget k L = some c → c.ht < 3) : ∀ (m : Nat) (k : Str) (c : LC), lget k L = some c → below L r k < m → ∃ z, exp L (3 * m + 1) (.as k) = some z
  | 0, _, _, _, hb => absurd hb (Nat.not_lt_zero _)
  | m + 1, k, c, hk, hb => by
    have kids : ∀ j ∈ c.names, ∃ z, exp L (3 * m + 1) (.as j) = some z := fun j hj => by
      obtain ⟨⟨c', hc'⟩, lt⟩ := h k c hk j hj
      have := below_lt lt hc'
      exact ex_line h low m j c' hc' (by omega)
    obtain ⟨z, hz⟩ := ex_card (by omega : 1 ≤ 3 * m + 1) c kids
    have h2 := low k c hk
    refine ⟨z, ?_⟩
    show (lget k L).bind (exp L (3 * (m + 1))) = some z
    rw [hk]
    exact exp_le hz (by omega)
theorem ex_all {L : Ln} {r : Str → Nat} (h : Ranked L r) (low : ∀ k c, lget k L = some c → c.ht < 3) (few : L.length ≤ 5) {k : Str} {c : LC} (hk : lget k L = some c) : ∃ z, exp L 30 (.as k) = some z := by
  obtain ⟨z, hz⟩ := ex_line h low 5 k c hk (by have := below_len (r := r) hk; omega)
  exact ⟨z, exp_le hz (by decide)⟩
end Tr

set_option Elab.async false
set_option linter.all false
set_option maxRecDepth 100000
set_option maxHeartbeats 4000000
namespace Tr
open PySem PySem.Spec L2
theorem ll_put (k : Str) (c : LC) (L : Ln) : llT (lput k c L) = kput (.inr k) (lcT c) (llT L) := by
  have e : ((llT L).any fun q => decide (q.1 = (Sum.inr k : Key))) = (L.any fun q => decide (q.1 = k)) := by
    unfold llT
    rw [List.any_map]
    congr 1
    funext q
    show decide ((Sum.inr q.1 : Key) = .inr k) = decide (q.1 = k)
    by_cases h : q.1 = k
    · rw [decide_eq_true h, decide_eq_true (by rw [h])]
    · rw [decide_eq_false h, decide_eq_false fun z => h (Sum.inr.inj z)]
  unfold lput kput
  rw [e]
  split
  · unfold llT
    rw [List.map_map, List.map_map]
    refine List.map_congr_left fun q _ => ?_
    show (Sum.inr (if q.1 = k then (q.1, c) else q).1, lcT (if q.1 = k then (q.1, c) else q).2) = if (Sum.inr q.1 : Key) = .inr k then (Sum.inr q.1, lcT c) else (Sum.inr q.1, lcT q.2)
    by_cases h : q.1 = k
    · rw [if_pos h, if_pos (by rw [h])]
    · rw [if_neg h, if_neg fun z => h (Sum.inr.inj z)]
  · unfold llT
    rw [List.map_append]
    rfl
theorem ll_drop (k : Str) (L : Ln) : llT (ldrop k L) = kdrop (.inr k) (llT L) := by
  unfold ldrop kdrop llT
  rw [List.filter_map]
  congr 1
  refine List.filter_congr fun q _ => ?_
  show decide (q.1 ≠ k) = decide ((Sum.inr q.1 : Key) ≠ .inr k)
  exact decide_eq_decide.mpr ⟨fun h z => h (Sum.inr.inj z), fun h z => h (by rw [z])⟩
/-- a new line's keys stay in the pool -/
theorem lput_keys {k : Str} {c : LC} {L : Ln} {j : Str} (h : j ∈ (lput k c L).map (·.1)) : j = k ∨ j ∈ L.map (·.1) := by
  obtain ⟨cj, hj⟩ := lget_some h
  rw [lget_put] at hj
  by_cases e : k = j
  · exact .inl e.symm
  · rw [if_neg e] at hj
    exact .inr (lget_key hj)
end Tr

set_option Elab.async false
set_option linter.all false
set_option maxRecDepth 100000
set_option maxHeartbeats 4000000
namespace Tr
open PySem PySem.Spec L2
/-! ### lines put, dropped: they stay well made -/
theorem LinesOk.belows {L : Ln} {r : Str → Nat} (ok : LinesOk L r) : Belows L := ⟨ok.few, ok.low, fun k c h j hj => (ok.rank k c h j hj).1⟩
theorem wt_pos (c : LC) : 1 ≤ c.wt := by
  cases c with
  | once s l => exact Nat.le_refl 1
  | every d s l => exact Nat.le_refl 1
  | as k => exact Nat.le_refl 1
  | later c m => show 1 ≤ 1 + c.wt; omega
  | noted c m => show 1 ≤ 1 + c.wt; omega
  | less a b => show 1 ≤ 1 + (a.wt + b.wt); omega
  | swap a d b => show 1 ≤ 1 + (a.wt + b.wt); omega
  | join a b => show 1 ≤ 1 + (a.wt + b.wt); omega
theorem leaf_wt {L : Ln} {n : Nat} {lf z : LC} (hl : isLeaf lf) (h : exp L n lf = some z) : z.wt = 1 := by
  cases n with
  | zero => cases h
  | succ n =>
    cases lf with
    | once s l => cases h; rfl
    | every d s l => cases h; rfl
    | _ => cases hl
theorem leaf_names {lf : LC} (hl : isLeaf lf) : lf.names = [] := by
  cases lf with
  | once s l => rfl
  | every d s l => rfl
  | _ => cases hl
theorem leaf_le {L : Ln} {nm : Str} {lf : LC} (hl : isLeaf lf) : ∀ {n m : Nat} {c z z' : LC}, exp L m c = some z → exp (lput nm lf L) n c = some z' → z'.wt ≤ z.wt
  | 0, _, _, _, _, _, h => by cases h
  | _ + 1, 0, _, _, _, h, _ => by cases h
  | n + 1, m + 1, .once s l, z, z', h, h' => by
    cases h
    cases h'
    exact Nat.le_refl _
  | n + 1, m + 1, .every d s l, z, z', h, h' => by
    cases h
    cases h'
    exact Nat.le_refl _
  | n + 1, m + 1, .as k, z, z', h, h' => by
    have h : (lget k L).bind (exp L m) = some z := h
    have h' : (lget k (lput nm lf L)).bind (exp (lput nm lf L) n) = some z' := h'
    rw [lget_put] at h'
    by_cases e : nm = k
    · rw [if_pos e] at h'
      have w := leaf_wt hl (show exp (lput nm lf L) n lf = some z' from h')
      have := wt_pos z
      omega
    · rw [if_neg e] at h'
      cases q : lget k L with
      | none => rw [q] at h; cases h
      | some c1 =>
        rw [q] at h h'
        exact leaf_le hl (n := n) (m := m) (c := c1) h h'
  | n + 1, m + 1, .later c x, z, z', h, h' => by
    obtain ⟨y, e, rfl⟩ := Option.map_eq_some_iff.mp (show (exp L m c).map (fun y => LC.later y x) = some z from h)
    obtain ⟨y', e', rfl⟩ := Option.map_eq_some_iff.mp (show (exp (lput nm lf L) n c).map (fun y => LC.later y x) = some z' from h')
    have := leaf_le hl e e'
    show 1 + y'.wt ≤ 1 + y.wt
    omega
  | n + 1, m + 1, .noted c x, z, z', h, h' => by
    obtain ⟨y, e, rfl⟩ := Option.map_eq_some_iff.mp (show (exp L m c).map (fun y => LC.noted y x) = some z from h)
    obtain ⟨y', e', rfl⟩ := Option.map_eq_some_iff.mp (show (exp (lput nm lf L) n c).map (fun y => LC.noted y x) = some z' from h')
    have := leaf_le hl e e'
    show 1 + y'.wt ≤ 1 + y.wt
    omega
  | n + 1, m + 1, .less a b, z, z', h, h' => by
    obtain ⟨x, y, e1, e2, rfl⟩ := two_some (show two LC.less (exp L m a) (exp L m b) = some z from h)
    obtain ⟨x', y', e1', e2', rfl⟩ := two_some (show two LC.less (exp (lput nm lf L) n a) (exp (lput nm lf L) n b) = some z' from h')
    have i1 := leaf_le hl e1 e1'
    have i2 := leaf_le hl e2 e2'
    show 1 + (x'.wt + y'.wt) ≤ 1 + (x.wt + y.wt)
    omega
  | n + 1, m + 1, .swap a d b, z, z', h, h' => by
    obtain ⟨x, y, e1, e2, rfl⟩ := two_some (show two (fun x y => LC.swap x d y) (exp L m a) (exp L m b) = some z from h)
    obtain ⟨x', y', e1', e2', rfl⟩ := two_some (show two (fun x y => LC.swap x d y) (exp (lput nm lf L) n a) (exp (lput nm lf L) n b) = some z' from h')
    have i1 := leaf_le hl e1 e1'
    have i2 := leaf_le hl e2 e2'
    show 1 + (x'.wt + y'.wt) ≤ 1 + (x.wt + y.wt)
    omega
  | n + 1, m + 1, .join a b, z, z', h, h' => by
    obtain ⟨x, y, e1, e2, rfl⟩ := two_some (show two LC.join (exp L m a) (exp L m b) = some z from h)
    obtain ⟨x', y', e1', e2', rfl⟩ := two_some (show two LC.join (exp (lput nm lf L) n a) (exp (lput nm lf L) n b) = some z' from h')
    have i1 := leaf_le hl e1 e1'
    have i2 := leaf_le hl e2 e2'
    show 1 + (x'.wt + y'.wt) ≤ 1 + (x.wt + y.wt)
    omega
theorem lput_nd {k : Str} {c : LC} {L : Ln} (nd : (L.map (·.1)).Nodup) : ((lput k c L).map (·.1)).Nodup := by
  unfold lput
  split
  · have e : (L.map fun q => if q.1 = k then (q.1, c) else q).map (·.1) = L.map (·.1) := by
      rw [List.map_map]
      refine List.map_congr_left fun q _ => ?_
      show (if q.1 = k then (q.1, c) else q).1 = q.1
      split <;> rfl
    rw [e]
    exact nd
  · rename_i h
    rw [List.map_append, List.nodup_append]
    refine ⟨nd, by simp, fun a ha b hb e => ?_⟩
    obtain ⟨q, hq, rfl⟩ := List.mem_map.mp ha
    have hb : b ∈ [k] := hb
    exact h (List.any_eq_true.mpr ⟨q, hq, decide_eq_true (e.trans (List.mem_singleton.mp hb))⟩)
theorem over (f : Str → Nat) : ∀ l : List Str, ∃ N, ∀ j ∈ l, f j < N
  | [] => ⟨0, fun _ h => by cases h⟩
  | x :: l => by
    obtain ⟨N, h⟩ := over f l
    refine ⟨N + f x + 1, fun j hj => ?_⟩
    rcases List.mem_cons.mp hj with e | e
    · rw [e]; omega
    · have := h j e
      omega
theorem lput_few {k : Str} {c : LC} {L : Ln} {names : List Str} (nd : (L.map (·.1)).Nodup) (sub : ∀ j ∈ L.map (·.1), j ∈ names) (h5 : names.length ≤ 5) (hk : k ∈ names) : (lput k c L).length ≤ 5 := by
  have e := few_of ((lput k c L).map (·.1)) names (lput_nd nd) fun j hj => by
    rcases lput_keys hj with z | z
    · rw [z]; exact hk
    · exact sub j z
  rw [List.length_map] at e
  omega
/-- all but the sizes -/
structure Pre (L : Ln) (r : Str → Nat) : Prop where
  nd : (L.map (·.1)).Nodup
  few : L.length ≤ 5
  wd : ∀ k c, lget k L = some c → isW k
  ok : okL L
  low : ∀ k c, lget k L = some c → c.ht < 3 ∧ c.wt ≤ 7
  rank : Ranked L r
theorem Pre.ex {L : Ln} {r : Str → Nat} (p : Pre L r) {k : Str} {c : LC} (h : lget k L = some c) : ∃ z, exp L 30 (.as k) = some z := ex_all p.rank (fun k c h => (p.low k c h).1) p.few h
theorem Pre.lines {L : Ln} {r : Str → Nat} (p : Pre L r) (sz : ∀ k z, exp L 30 (.as k) = some z → z.wt ≤ 30) : LinesOk L r :=
  ⟨p.nd, p.few, p.wd, p.ok, p.low, p.rank, fun k c h => let ⟨z, hz⟩ := p.ex h; ⟨z, hz, sz k z hz⟩⟩
theorem pre_put {L : Ln} {r : Str → Nat} {nm : Str} {cc : LC} {names : List Str} (ok : LinesOk L r) (hw : isW nm) (sub : ∀ j ∈ L.map (·.1), j ∈ names) (h5 : names.length ≤ 5) (hk : nm ∈ names) (oc : okC cc) (hh : cc.ht < 3) (hwt : cc.wt ≤ 7)
    (ap : ∀ j ∈ cc.names, Apart L nm j) : ∃ r', Pre (lput nm cc L) r' := by
  obtain ⟨N, hN⟩ := over r cc.names
  refine ⟨rankP L r nm N, lput_nd ok.nd, lput_few ok.nd sub h5 hk, fun k c h => ?_, fun k c h => ?_, fun k c h => ?_, rank_put ok.rank hN ap⟩
  · rw [lget_put] at h
    by_cases e : nm = k
    · rw [← e]; exact hw
    · rw [if_neg e] at h
      exact ok.wd k c h
  · rw [lget_put] at h
    by_cases e : nm = k
    · rw [if_pos e] at h
      cases h
      exact oc
    · rw [if_neg e] at h
      exact ok.ok k c h
  · rw [lget_put] at h
    by_cases e : nm = k
    · rw [if_pos e] at h
      cases h
      exact ⟨hh, hwt⟩
    · rw [if_neg e] at h
      exact ok.low k c h
/-- a leaf put -/
theorem leaf_put {L : Ln} {r : Str → Nat} {nm : Str} {lf : LC} {names : List Str} (ok : LinesOk L r) (hw : isW nm) (sub : ∀ j ∈ L.map (·.1), j ∈ names) (h5 : names.length ≤ 5) (hk : nm ∈ names) (oc : okC lf) (hl : isLeaf lf) : ∃ r', LinesOk (lput nm lf L) r' := by
  have ck := leaf_ok (deep := 0) (ns := []) oc hl
  obtain ⟨r', p⟩ := pre_put ok hw sub h5 hk oc (by have := ck.ht; omega) (by have := ck.wt; have e : (2 : Nat) ^ (0 + 1) = 2 := rfl; omega) (by rw [leaf_names hl]; intro j h; cases h)
  refine ⟨r', p.lines fun k z hz => ?_⟩
  by_cases e : nm = k
  · have hz : (lget k (lput nm lf L)).bind (exp (lput nm lf L) 29) = some z := hz
    rw [lget_put, if_pos e] at hz
    have := leaf_wt hl (show exp (lput nm lf L) 29 lf = some z from hz)
    omega
  · have hz2 : (lget k (lput nm lf L)).bind (exp (lput nm lf L) 29) = some z := hz
    rw [lget_put, if_neg e] at hz2
    cases q : lget k L with
    | none => rw [q] at hz2; cases hz2
    | some c =>
      obtain ⟨z0, h0, w0⟩ := ok.full k c q
      exact Nat.le_trans (leaf_le hl h0 hz) w0
/-- one taken out that no other is told as -/
theorem drop_ok {L : Ln} {r : Str → Nat} {nm : Str} (ok : LinesOk L r) (un : ∀ k c, lget k L = some c → nm ∉ c.names) : LinesOk (ldrop nm L) r := by
  have back : ∀ k c, lget k (ldrop nm L) = some c → k ≠ nm ∧ lget k L = some c := fun k c h => by
    rw [lget_drop] at h
    by_cases e : k = nm
    · rw [if_pos e] at h; cases h
    · rw [if_neg e] at h
      exact ⟨e, h⟩
  refine ⟨?_, Nat.le_trans (List.length_filter_le _ _) ok.few, fun k c h => ok.wd k c (back k c h).2, fun k c h => ok.ok k c (back k c h).2, fun k c h => ok.low k c (back k c h).2, rank_drop ok.rank un, fun k c h => ?_⟩
  · exact ok.nd.sublist (List.Sublist.map _ List.filter_sublist)
  · obtain ⟨ne, h⟩ := back k c h
    obtain ⟨z, hz, w⟩ := ok.full k c h
    refine ⟨z, exp_drop un (fun m => ?_) hz, w⟩
    have m : nm ∈ [k] := m
    exact ne (List.mem_singleton.mp m).symm
theorem ldrop_keys {k j : Str} {L : Ln} (h : j ∈ (ldrop k L).map (·.1)) : j ∈ L.map (·.1) := by
  obtain ⟨q, hq, rfl⟩ := List.mem_map.mp h
  exact List.mem_map.mpr ⟨q, (List.mem_filter.mp hq).1, rfl⟩
theorem LinesOk.told {L : Ln} {r : Str → Nat} (ok : LinesOk L r) : LTold L := ⟨ok.few, ok.wd, ok.nd, fun k c h => by
  obtain ⟨z, hz, w⟩ := ok.full k c h
  exact ⟨z, hz, exp_ok ok.ok hz (ok.wd k c h), w⟩⟩
end Tr

set_option Elab.async false
set_option linter.all false
set_option maxRecDepth 100000
set_option maxHeartbeats 4000000
namespace Tr
open PySem PySem.Spec L2


section
variable {P : Program} {w : World} {K : PySem.W.Frag} {mg : Str → Option Value} {base : Heap}


theorem kp_L_sz (c : Fx K mg) {L : Ln} : Kp P w K mg base ("_law_size", none) 33 2 (F_L_size L 31) := by
  have k_L_inner := kp_L_inner (P := P) (w := w) (base := base) c
  have k_L_size := L_size_all (P := P) (w := w) (base := base) c L 30
  refine kp_def (d := d_L_size) c M_L_size S_L_size rfl (fun FD => FD.bindsN fun _ _ _ _ _ _ us hl => match us, hl with | [_, _], _ => rfl) fun cdv A outer s H E hr => ⟨_, (
    (qss_cons (qs_if (qt_cmp ot_eq (qe_ix it_seqx (qv 0) qe_int) qe_str)
      (qss_one (qs_ret (qe_fn (k_L_size) (hr.mono (by omega)) c.g_law_size (qa_cons (qe_dgetx (Tr.Room.u1 hr) (qv 1) (qe_ix it_seqx (qv 0) qe_int)) (qa_cons (qv 1) qa_nil)))))
      qss_nil)
      (qss_one (qs_ret (qe_op ot_add qe_int (qe_callB (ct_sum rfl) c.b_sum (qa_cons (qe_lc1 2 rfl S_L_size.nd (qi_lst (qe_fn (k_L_inner) (hr.mono (by omega)) c.g_law_inner (qa_cons (qv 0) qa_nil))) (blkOk_by (by rfl)) (fun s H C cl fp => qts_nil) (fun s H C cl fp => (qe_fn (k_L_size) (hr.mono (by omega)) c.g_law_size (qa_cons (qv 2) (qa_cons (qv 1) qa_nil))))) qa_nil))))))), ?_⟩
  rintro ts M Q hl ⟨a, lk, d, z, rfl, ha, hz, q⟩
  let n := 30
  cases hk : d.kd.isNone with
  | true =>
    cases d with
    | as m =>
      have hz : (lget m L).bind (exp L n) = some z := hz
      cases e : lget m L with
      | none => rw [e] at hz; cases hz
      | some cc =>
        rw [e] at hz
        exact ⟨_, _, _, .inr rfl, rfl, rfl, yes (by decide) ⟨_, _, _, .inr rfl, rfl, rfl, lk, _, _, ha, rfl, lcT cc, by rw [kget_ll, e]; rfl, rfl, cl_of ⟨a, lk, cc, z, rfl, ha, hz, M, Msub.refl M, q⟩⟩⟩
    | _ => cases hk
  | false =>
    obtain ⟨xs, nm, e0, e1⟩ := tag_of hk
    obtain ⟨zs, hlen, ez, kid⟩ := exp_kids hk hz
    have kf := kids_few d
    refine ⟨_, _, .str nm, .inr (by rw [e0]; rfl), rfl, rfl, nod e1 ?_⟩
    refine ⟨rfl, cl_of ⟨d, rfl, ?_⟩⟩
    refine lc_get (ts := lcsT d.kids) (M1 := M) (zs.map fun z => T.int (z.wt : Nat)) kT (by unfold lcsT; rw [List.length_map]; omega) (by unfold lcsT; rw [List.length_map, List.length_map, hlen]) (fun k t' et => ?_) ?_
    · unfold lcsT at et
      rw [List.getElem?_map] at et
      obtain ⟨x, hx, rfl⟩ := Option.map_eq_some_iff.mp et
      obtain ⟨y, hy, ey, _⟩ := kid k x hx
      exact ⟨_, .int (y.wt : Nat), rfl, by rw [List.getElem?_map, hy]; rfl, fun Q' q' => ⟨rfl, cl_of ⟨a, lk, x, y, rfl, ha, ey, q'⟩⟩⟩
    · refine ⟨_, kid_ints zs, M, Msub.refl M, ?_⟩
      dsimp only
      rw [wt_sum, ← show (((1 + (zs.map LC.wt).sum : Nat)) : Int) = 1 + (((zs.map LC.wt).sum : Nat) : Int) from by omega, ← rebuild_sum hk hlen, ← ez]
      exact q
theorem kp_L_szx (c : Fx K mg)  : Kp P w K mg base ("_law_size", none) 33 2 (fun ts M Q => ∃ L : Ln, (F_L_size L 31) ts M Q) := by
  refine kp_defx (d := d_L_size) c M_L_size S_L_size rfl (fun FD => FD.bindsN fun _ _ _ _ _ _ us hl => match us, hl with | [_, _], _ => rfl) fun L => ?_
  have k_L_inner := kp_L_inner (P := P) (w := w) (base := base) c
  have k_L_size := L_size_all (P := P) (w := w) (base := base) c L 30
  refine fun cdv A outer s H E hr => ⟨_, (
    (qss_cons (qs_if (qt_cmp ot_eq (qe_ix it_seqx (qv 0) qe_int) qe_str)
      (qss_one (qs_ret (qe_fn (k_L_size) (hr.mono (by omega)) c.g_law_size (qa_cons (qe_dgetx (Tr.Room.u1 hr) (qv 1) (qe_ix it_seqx (qv 0) qe_int)) (qa_cons (qv 1) qa_nil)))))
      qss_nil)
      (qss_one (qs_ret (qe_op ot_add qe_int (qe_callB (ct_sum rfl) c.b_sum (qa_cons (qe_lc1 2 rfl S_L_size.nd (qi_lst (qe_fn (k_L_inner) (hr.mono (by omega)) c.g_law_inner (qa_cons (qv 0) qa_nil))) (blkOk_by (by rfl)) (fun s H C cl fp => qts_nil) (fun s H C cl fp => (qe_fn (k_L_size) (hr.mono (by omega)) c.g_law_size (qa_cons (qv 2) (qa_cons (qv 1) qa_nil))))) qa_nil))))))), ?_⟩
  rintro ts M Q hl ⟨a, lk, d, z, rfl, ha, hz, q⟩
  let n := 30
  cases hk : d.kd.isNone with
  | true =>
    cases d with
    | as m =>
      have hz : (lget m L).bind (exp L n) = some z := hz
      cases e : lget m L with
      | none => rw [e] at hz; cases hz
      | some cc =>
        rw [e] at hz
        exact ⟨_, _, _, .inr rfl, rfl, rfl, yes (by decide) ⟨_, _, _, .inr rfl, rfl, rfl, lk, _, _, ha, rfl, lcT cc, by rw [kget_ll, e]; rfl, rfl, cl_of ⟨a, lk, cc, z, rfl, ha, hz, M, Msub.refl M, q⟩⟩⟩
    | _ => cases hk
  | false =>
    obtain ⟨xs, nm, e0, e1⟩ := tag_of hk
    obtain ⟨zs, hlen, ez, kid⟩ := exp_kids hk hz
    have kf := kids_few d
    refine ⟨_, _, .str nm, .inr (by rw [e0]; rfl), rfl, rfl, nod e1 ?_⟩
    refine ⟨rfl, cl_of ⟨d, rfl, ?_⟩⟩
    refine lc_get (ts := lcsT d.kids) (M1 := M) (zs.map fun z => T.int (z.wt : Nat)) kT (by unfold lcsT; rw [List.length_map]; omega) (by unfold lcsT; rw [List.length_map, List.length_map, hlen]) (fun k t' et => ?_) ?_
    · unfold lcsT at et
      rw [List.getElem?_map] at et
      obtain ⟨x, hx, rfl⟩ := Option.map_eq_some_iff.mp et
      obtain ⟨y, hy, ey, _⟩ := kid k x hx
      exact ⟨_, .int (y.wt : Nat), rfl, by rw [List.getElem?_map, hy]; rfl, fun Q' q' => ⟨rfl, cl_of ⟨a, lk, x, y, rfl, ha, ey, q'⟩⟩⟩
    · refine ⟨_, kid_ints zs, M, Msub.refl M, ?_⟩
      dsimp only
      rw [wt_sum, ← show (((1 + (zs.map LC.wt).sum : Nat)) : Int) = 1 + (((zs.map LC.wt).sum : Nat) : Int) from by omega, ← rebuild_sum hk hlen, ← ez]
      exact q
end
end Tr

set_option Elab.async false
set_option linter.all false
set_option maxRecDepth 100000
set_option maxHeartbeats 4000000
namespace Tr
open PySem PySem.Spec L2

theorem keys_atL {L : Ln} {i : Nat} {t : T} (h : (keysT (llT L))[i]? = some t) : ∃ k c, (k, c) ∈ L ∧ t = .str k ∧ L[i]? = some (k, c) := by
  unfold keysT llT at h
  rw [List.map_map, List.getElem?_map] at h
  obtain ⟨p, hp, e⟩ := Option.map_eq_some_iff.mp h
  exact ⟨p.1, p.2, List.mem_of_getElem? hp, e.symm, hp⟩
theorem keysT_lenL (L : Ln) : (keysT (llT L)).length = L.length := by
  unfold keysT llT
  rw [List.length_map, List.length_map]
theorem llT_len (L : Ln) : (llT L).length = L.length := List.length_map _
/-- how many cards a line means -/
def szL (L : Ln) (k : Str) : Int := match exp L 30 (.as k) with
  | some z => (z.wt : Nat)
  | none => 0
theorem PotAt.set {M : Mh} {p l : Addr} {o : OO} (h : PotAt M p) (n : p ≠ l) : PotAt (mset M l o) p := by
  obtain ⟨a, b, i, g1, g2⟩ := h
  exact ⟨a, b, i, (mset_ne n).trans g1, g2⟩
theorem PotAt.del {M : Mh} {p l : Addr} (h : PotAt M p) (n : p ≠ l) : PotAt (mdel M l) p := by
  obtain ⟨a, b, i, g1, g2⟩ := h
  exact ⟨a, b, i, (mdel_ne n).trans g1, g2⟩
theorem PotAt.free {M : Mh} {p l : Addr} (h : PotAt M p) (n : M l = none) : p ≠ l := ne_free h.ex.choose_spec.choose_spec.choose_spec.1 n
theorem Msub.del {M : Mh} {l : Addr} : Msub (mdel M l) M := fun b o e => by
  by_cases z : b = l
  · rw [z, mdel_same] at e; cases e
  · rw [mdel_ne z] at e
    exact e

section
variable {P : Program} {w : World} {K : PySem.W.Frag} {mg : Str → Option Value} {base : Heap}

def F_L_new_card (L : Ln) : TSpec := fun ts M Q => ∃ p a r nm names, ts = [.adr p, .adr a, .str nm, .lst (strsT1 names), .int 2] ∧ PotAt M p ∧ M a = some (.dic .un (llT L)) ∧ LinesOk L r ∧ (∀ x ∈ names, isW x) ∧ names.length ≤ 5 ∧ nm ∈ names ∧ (∀ j ∈ L.map (·.1), j ∈ names) ∧
  ∀ c M' r', LinesOk (lput nm c L) r' → PotAt M' p → Oth p M M' → Q (lcT c) M'
theorem kp_L_new_card (c : Fx K mg) {L : Ln} : Kp P w K mg base ("_law_new_card", none) 50 5 (F_L_new_card L) := by
  have k_L_leaf := kp_L_leaf (P := P) (w := w) (base := base) c
  have k_L_free := kp_L_free (P := P) (w := w) (base := base) c (L := L)
  have k_L_card := L_card_all (P := P) (w := w) (base := base) c 3
  have k_L_size := kp_L_szx (P := P) (w := w) (base := base) c
  refine kp_def (d := d_L_new_card) c M_L_new_card S_L_new_card rfl (fun FD => FD.bindsN fun _ _ _ _ _ _ us hl => match us, hl with | [_, _, _, _, _], _ => rfl) fun cdv A outer s H E hr => ⟨_, (
    (qss_cons (qs_set 5 S_L_new_card.nd (qe_fn (k_L_card) (hr.mono (by omega)) c.g_law_card (qa_cons (qv 0) (qa_cons (qv 4) (qa_cons (qe_fn (k_L_free) (hr.mono (by omega)) c.g_law_free (qa_cons (qv 1) (qa_cons (qv 2) (qa_cons (qv 3) qa_nil)))) qa_nil)))))
      (qss_cons (qs_set 6 S_L_new_card.nd (qe_callTy ct_dictDx c.b_dict (qa_cons (qv 1) qa_nil)))
      (qss_cons (qs_dputx (Tr.Room.u1 hr) (qv 6) (qv 2) (qv 5))
      (qss_cons (qs_if (qt_cmp ot_gt (qe_callB (ct_max rfl) c.b_max (qa_cons (qe_lock (qe_lc1 7 rfl S_L_new_card.nd (qi_keysx (qv 6)) (blkOk_by (by rfl)) (fun s H C cl fp => qts_nil) (fun s H C cl fp => (qe_fn (k_L_size) (hr.mono (by omega)) c.g_law_size (qa_cons (qe_dgetx (Tr.Room.u1 hr) (qv 6) (qv 7)) (qa_cons (qv 6) qa_nil)))))) qa_nil)) qe_int)
      (qss_one (qs_ret (qe_fn (k_L_leaf) (hr.mono (by omega)) c.g_law_leaf (qa_cons (qv 0) qa_nil))))
      qss_nil)
      (qss_one (qs_ret (qv 5)))))))), ?_⟩
  rintro ts M Q hl ⟨p, a, r, nm, names, rfl, hp, ha, ok, hw, h5, hnm, sub, q⟩
  refine ⟨rfl, cl_of ⟨a, .un, nm, names, rfl, ha, ok.belows, h5, fun out ho ho5 => ⟨rfl, cl_of ⟨p, 2, out, rfl, by decide, hp, fun x hx => hw x (ho x hx).1, ho5, fun cc M1 ck p1 o1 => ?_⟩⟩⟩⟩
  have pa : a ≠ p := fun e => by
    obtain ⟨_, _, _, h, _⟩ := hp
    rw [← e, ha] at h
    cases h
  have ha1 : M1 a = some (.dic .un (llT L)) := (o1 a pa).trans ha
  refine ⟨_, _, _, rfl, ha1, fun l hl1 => ?_⟩
  have pl := p1.free hl1
  have few := ok.few
  refine ⟨l, _, _, rfl, mset_same, rfl, by rw [llT_len]; omega, ?_⟩
  rw [mset_set, ← ll_put]
  obtain ⟨r', pre⟩ := pre_put ok (hw nm hnm) sub h5 hnm ck.ok (by have := ck.ht; omega) (by have := ck.wt; have e : (2 : Nat) ^ (2 + 1) = 8 := rfl; omega) fun j hj => (ho j (ck.nm j hj)).2
  have few' := pre.few
  have hl0 : M l = none := (o1 l (Ne.symm pl)).symm.trans hl1
  have back : ∀ M3 : Mh, PotAt M3 p → Oth p (mset M1 l (.dic .un (llT (lput nm cc L)))) M3 → ∃ M2, Msub M2 M3 ∧ PotAt M2 p ∧ Oth p M M2 := fun M3 p3 o3 => by
    refine ⟨mdel M3 l, Msub.del, p3.del pl, fun x hx => ?_⟩
    by_cases e : x = l
    · rw [e, mdel_same, hl0]
    · rw [mdel_ne e, o3 x hx, mset_ne e, o1 x hx]
  refine ⟨l, _, mset_same, fun o vs => ⟨l, o, vs, _, rfl, mset_same, ?_⟩⟩
  rw [mset_set]
  refine ⟨fun k acc M' => M' = mset M1 l (.dic (.lk o vs) (llT (lput nm cc L))) ∧ acc = (((lput nm cc L).take k).map fun q => szL (lput nm cc L) q.1).map T.int, ⟨rfl, rfl⟩, ?_, ?_, ?_⟩
  · rintro k acc M' ⟨rfl, rfl⟩
    exact mset_same
  · rintro k acc M' t et ⟨rfl, rfl⟩
    obtain ⟨k1, c1, hm, rfl, hi⟩ := keys_atL et
    have hg := lget_at pre.nd hm
    obtain ⟨z, hz⟩ := pre.ex hg
    have hz2 : exp (lput nm cc L) 29 c1 = some z := by
      have hz : (lget k1 (lput nm cc L)).bind (exp (lput nm cc L) 29) = some z := hz
      rw [hg] at hz
      exact hz
    have es : szL (lput nm cc L) k1 = (z.wt : Nat) := by
      unfold szL
      rw [hz]
    refine ⟨_, rfl, fun _ => ⟨.lk o vs, _, _, mset_same, rfl, lcT c1, by rw [kget_ll, hg]; rfl, rfl, cl_of ⟨lput nm cc L, l, .lk o vs, c1, z, rfl, mset_same, exp_le hz2 (by omega), ?_⟩⟩, fun e => (nomatch e)⟩
    have lk : k < (lput nm cc L).length := (List.getElem?_eq_some_iff.mp hi).1
    refine ⟨by rw [List.length_map, List.length_map, List.length_take]; omega, rfl, ?_⟩
    rw [take_next hi, List.map_append, List.map_append, List.map_cons, List.map_nil, List.map_cons, List.map_nil, es]
  · rintro acc M' ⟨rfl, rfl⟩
    rw [keysT_lenL, List.take_length, mset_set]
    refine ⟨mset_same, _, rfl, ?_, fun m hm1 hm2 => ?_⟩
    · intro e
      have e := List.map_eq_nil_iff.mp e
      have h : lget nm (lput nm cc L) = some cc := by rw [lget_put, if_pos rfl]
      rw [e] at h
      cases h
    by_cases big : 30 < m
    · refine yesd big ⟨rfl, cl_of ⟨p, rfl, p1.set pl, fun lf M3 okl isl p3 o3 => ?_⟩⟩
      obtain ⟨M2, s2, p2, o2⟩ := back M3 p3 o3
      obtain ⟨r2, ok2⟩ := leaf_put ok (hw nm hnm) sub h5 hnm okl isl
      exact ⟨M2, s2, q lf M2 r2 ok2 p2 o2⟩
    · refine nod big ?_
      obtain ⟨M2, s2, p2, o2⟩ := back _ (p1.set pl) (Oth.refl _ _)
      refine ⟨M2, s2, q cc M2 r' (pre.lines fun k z hz => ?_) p2 o2⟩
      cases hk : lget k (lput nm cc L) with
      | none =>
        have hz : (lget k (lput nm cc L)).bind (exp (lput nm cc L) 29) = some z := hz
        rw [hk] at hz
        cases hz
      | some ck' =>
        have es : szL (lput nm cc L) k = (z.wt : Nat) := by
          unfold szL
          rw [hz]
        have := hm2 _ (List.mem_map.mpr ⟨(k, ck'), lget_mem hk, rfl⟩)
        dsimp only at this
        rw [es] at this
        omega
theorem kp_L_new_cardx (c : Fx K mg)  : Kp P w K mg base ("_law_new_card", none) 50 5 (fun ts M Q => ∃ L : Ln, (F_L_new_card L) ts M Q) := by
  refine kp_defx (d := d_L_new_card) c M_L_new_card S_L_new_card rfl (fun FD => FD.bindsN fun _ _ _ _ _ _ us hl => match us, hl with | [_, _, _, _, _], _ => rfl) fun L => ?_
  have k_L_leaf := kp_L_leaf (P := P) (w := w) (base := base) c
  have k_L_free := kp_L_free (P := P) (w := w) (base := base) c (L := L)
  have k_L_card := L_card_all (P := P) (w := w) (base := base) c 3
  have k_L_size := kp_L_szx (P := P) (w := w) (base := base) c
  refine fun cdv A outer s H E hr => ⟨_, (
    (qss_cons (qs_set 5 S_L_new_card.nd (qe_fn (k_L_card) (hr.mono (by omega)) c.g_law_card (qa_cons (qv 0) (qa_cons (qv 4) (qa_cons (qe_fn (k_L_free) (hr.mono (by omega)) c.g_law_free (qa_cons (qv 1) (qa_cons (qv 2) (qa_cons (qv 3) qa_nil)))) qa_nil)))))
      (qss_cons (qs_set 6 S_L_new_card.nd (qe_callTy ct_dictDx c.b_dict (qa_cons (qv 1) qa_nil)))
      (qss_cons (qs_dputx (Tr.Room.u1 hr) (qv 6) (qv 2) (qv 5))
      (qss_cons (qs_if (qt_cmp ot_gt (qe_callB (ct_max rfl) c.b_max (qa_cons (qe_lock (qe_lc1 7 rfl S_L_new_card.nd (qi_keysx (qv 6)) (blkOk_by (by rfl)) (fun s H C cl fp => qts_nil) (fun s H C cl fp => (qe_fn (k_L_size) (hr.mono (by omega)) c.g_law_size (qa_cons (qe_dgetx (Tr.Room.u1 hr) (qv 6) (qv 7)) (qa_cons (qv 6) qa_nil)))))) qa_nil)) qe_int)
      (qss_one (qs_ret (qe_fn (k_L_leaf) (hr.mono (by omega)) c.g_law_leaf (qa_cons (qv 0) qa_nil))))
      qss_nil)
      (qss_one (qs_ret (qv 5)))))))), ?_⟩
  rintro ts M Q hl ⟨p, a, r, nm, names, rfl, hp, ha, ok, hw, h5, hnm, sub, q⟩
  refine ⟨rfl, cl_of ⟨a, .un, nm, names, rfl, ha, ok.belows, h5, fun out ho ho5 => ⟨rfl, cl_of ⟨p, 2, out, rfl, by decide, hp, fun x hx => hw x (ho x hx).1, ho5, fun cc M1 ck p1 o1 => ?_⟩⟩⟩⟩
  have pa : a ≠ p := fun e => by
    obtain ⟨_, _, _, h, _⟩ := hp
    rw [← e, ha] at h
    cases h
  have ha1 : M1 a = some (.dic .un (llT L)) := (o1 a pa).trans ha
  refine ⟨_, _, _, rfl, ha1, fun l hl1 => ?_⟩
  have pl := p1.free hl1
  have few := ok.few
  refine ⟨l, _, _, rfl, mset_same, rfl, by rw [llT_len]; omega, ?_⟩
  rw [mset_set, ← ll_put]
  obtain ⟨r', pre⟩ := pre_put ok (hw nm hnm) sub h5 hnm ck.ok (by have := ck.ht; omega) (by have := ck.wt; have e : (2 : Nat) ^ (2 + 1) = 8 := rfl; omega) fun j hj => (ho j (ck.nm j hj)).2
  have few' := pre.few
  have hl0 : M l = none := (o1 l (Ne.symm pl)).symm.trans hl1
  have back : ∀ M3 : Mh, PotAt M3 p → Oth p (mset M1 l (.dic .un (llT (lput nm cc L)))) M3 → ∃ M2, Msub M2 M3 ∧ PotAt M2 p ∧ Oth p M M2 := fun M3 p3 o3 => by
    refine ⟨mdel M3 l, Msub.del, p3.del pl, fun x hx => ?_⟩
    by_cases e : x = l
    · rw [e, mdel_same, hl0]
    · rw [mdel_ne e, o3 x hx, mset_ne e, o1 x hx]
  refine ⟨l, _, mset_same, fun o vs => ⟨l, o, vs, _, rfl, mset_same, ?_⟩⟩
  rw [mset_set]
  refine ⟨fun k acc M' => M' = mset M1 l (.dic (.lk o vs) (llT (lput nm cc L))) ∧ acc = (((lput nm cc L).take k).map fun q => szL (lput nm cc L) q.1).map T.int, ⟨rfl, rfl⟩, ?_, ?_, ?_⟩
  · rintro k acc M' ⟨rfl, rfl⟩
    exact mset_same
  · rintro k acc M' t et ⟨rfl, rfl⟩
    obtain ⟨k1, c1, hm, rfl, hi⟩ := keys_atL et
    have hg := lget_at pre.nd hm
    obtain ⟨z, hz⟩ := pre.ex hg
    have hz2 : exp (lput nm cc L) 29 c1 = some z := by
      have hz : (lget k1 (lput nm cc L)).bind (exp (lput nm cc L) 29) = some z := hz
      rw [hg] at hz
      exact hz
    have es : szL (lput nm cc L) k1 = (z.wt : Nat) := by
      unfold szL
      rw [hz]
    refine ⟨_, rfl, fun _ => ⟨.lk o vs, _, _, mset_same, rfl, lcT c1, by rw [kget_ll, hg]; rfl, rfl, cl_of ⟨lput nm cc L, l, .lk o vs, c1, z, rfl, mset_same, exp_le hz2 (by omega), ?_⟩⟩, fun e => (nomatch e)⟩
    have lk : k < (lput nm cc L).length := (List.getElem?_eq_some_iff.mp hi).1
    refine ⟨by rw [List.length_map, List.length_map, List.length_take]; omega, rfl, ?_⟩
    rw [take_next hi, List.map_append, List.map_append, List.map_cons, List.map_nil, List.map_cons, List.map_nil, es]
  · rintro acc M' ⟨rfl, rfl⟩
    rw [keysT_lenL, List.take_length, mset_set]
    refine ⟨mset_same, _, rfl, ?_, fun m hm1 hm2 => ?_⟩
    · intro e
      have e := List.map_eq_nil_iff.mp e
      have h : lget nm (lput nm cc L) = some cc := by rw [lget_put, if_pos rfl]
      rw [e] at h
      cases h
    by_cases big : 30 < m
    · refine yesd big ⟨rfl, cl_of ⟨p, rfl, p1.set pl, fun lf M3 okl isl p3 o3 => ?_⟩⟩
      obtain ⟨M2, s2, p2, o2⟩ := back M3 p3 o3
      obtain ⟨r2, ok2⟩ := leaf_put ok (hw nm hnm) sub h5 hnm okl isl
      exact ⟨M2, s2, q lf M2 r2 ok2 p2 o2⟩
    · refine nod big ?_
      obtain ⟨M2, s2, p2, o2⟩ := back _ (p1.set pl) (Oth.refl _ _)
      refine ⟨M2, s2, q cc M2 r' (pre.lines fun k z hz => ?_) p2 o2⟩
      cases hk : lget k (lput nm cc L) with
      | none =>
        have hz : (lget k (lput nm cc L)).bind (exp (lput nm cc L) 29) = some z := hz
        rw [hk] at hz
        cases hz
      | some ck' =>
        have es : szL (lput nm cc L) k = (z.wt : Nat) := by
          unfold szL
          rw [hz]
        have := hm2 _ (List.mem_map.mpr ⟨(k, ck'), lget_mem hk, rfl⟩)
        dsimp only at this
        rw [es] at this
        omega
end
end Tr

set_option Elab.async false
set_option linter.all false
set_option maxRecDepth 100000
set_option maxHeartbeats 4000000
namespace Tr
open PySem PySem.Spec L2 PyProof PyProof.Rows
/-! ### defs that ask for texts (repr): no other repr stands around -/
abbrev Quiet (A : Around) : Prop := A.guards = some []
/-- a def's promise where nothing is being shown -/
structure FnQ (P : Program) (w : World) (K : PySem.W.Frag) (mg : Str → Option Value) (base : Heap) (k : Nat) (f : Addr) (fd : FuncData) (ps : List Str) (sp : Sp) : Prop where
  fits : ∀ vs H Q E, sp vs H Q E → vs.length = ps.length
  goes : ∀ {A : Around} {outer : List Env} {s : Shared} {H : Hp} {args : Args} {us : List Value} {vs : List V} {Q : VK} {E : XK}, Room k A → Quiet A → Env0 P w K mg base A outer s H →
    BindsTo s fd args (ps.zip us) → Vals vs us → sp vs H Q E → codeAny (model P w) A (.call (.ref f) args) (CR CX0 outer P w H s Q E) s
section
variable {P : Program} {w : World} {K : PySem.W.Frag} {mg : Str → Option Value} {base : Heap} {x qual : Str} {params : Arguments} {body : List Stmt} {scope : Scope} {dvs : List V} {kws : List (Str × V)} {f : Addr} {fd : FuncData}
/-- by its body -/
theorem fnQ {N ps : List Str} {k : Nat} {sp : Sp} (F : FunD K x qual params body scope dvs kws f fd) (S : FnScope N ps scope) (fits : ∀ vs H Q E, sp vs H Q E → vs.length = ps.length)
    (hb : ∀ (cdv : Value) (A : Around) (outer : List Env) (s : Shared) (H : Hp) (vs : List V) (Q : VK) (E : XK), Room k (A.deeper (envOfC qual scope s.heap.objs.size f cdv)) → Quiet (A.deeper (envOfC qual scope s.heap.objs.size f cdv)) → sp vs H Q E →
      ∃ t, PSs (cxOf CX0 P w K mg base N qual scope f cdv A outer s H E) body t ∧ t { nx := fun _ H' => Q .non H', rt := Q } (start N vs) H) : FnQ P w K mg base (k + 1) f fd ps sp := by
  obtain ⟨oc, od, dV, kV, doc, pm, an, cdv, ct, osl, rfl, lk, hcd, _, _⟩ := F.ex
  constructor
  · exact fits
  intro A outer s H args us vs Q E hr hq e0 hbd r hsp
  have n := fits _ _ _ _ hsp
  have inK := e0.mod.kin.keeps (fun b o e => (e0.bs b o e).1)
  have noL := e0.mod.nolimit.keeps (fun b o e => (e0.bs b o e).1)
  refine codeAny_call_function hr.depth (inK _ _ lk) rfl S.co S.gen rfl (PySem.W.codeRec_of inK hcd) (hbd _ _ _ _ ?_)
  refine wpAny_newFunctionEnv_cells S.kind (fun y hy => ?_) (fun env he s1 x => ?_)
  · rcases S.par y.1 (List.of_mem_zip (show (y.1, y.2) ∈ _ from hy)).1 with q | q
    · exact Or.inl q
    · exact Or.inr ⟨q, PySem.W.cellsFrom_some _ _ _ (Or.inl q)⟩
  subst he
  refine ⟨noL.keeps x.toInCall.keep, codeAny_func ?_⟩
  obtain ⟨t, ht, run⟩ := hb cdv A outer s H vs Q E (hr.deeper _) hq hsp
  have I := inv_start (CX := CX0) (P := P) (w := w) (K := K) (mg := mg) (base := base) (N := N) (E := E) S hr.hd e0 n r x
  refine wpAny_mono (ht.run _ _ _ _ _ I run) (fun fl s' z => ?_) (fun _ _ z => z)
  cases fl with
  | ret u =>
    obtain ⟨v, σ', H', J, rv, q⟩ := z
    exact ⟨v, H', J.os, J.bare, J.base, J.hok, rv, q⟩
  | next =>
    obtain ⟨σ', H', J, q⟩ := z
    exact ⟨V.non, H', J.os, J.bare, J.base, J.hok, rfl, q⟩
  | brk =>
    obtain ⟨_, _, _, q⟩ := z
    exact q.elim
  | cont =>
    obtain ⟨_, _, _, q⟩ := z
    exact q.elim
/-- over trees -/
theorem fnQT {N ps : List Str} {k n : Nat} {F : TSpec} (FD : FunD K x qual params body scope dvs kws f fd) (S : FnScope N ps scope) (hn : ps.length = n)
    (hb : ∀ (cdv : Value) (A : Around) (outer : List Env) (s : Shared) (H : Hp) (E : XK), Room k (A.deeper (envOfC qual scope s.heap.objs.size f cdv)) → Quiet (A.deeper (envOfC qual scope s.heap.objs.size f cdv)) →
      ∃ w0, QSs (cxOf CX0 P w K mg base N qual scope f cdv A outer s H E).nox body w0 ∧ ∀ ts M Q, ts.length = n → F ts M Q → w0 (endsF Q) (startT N ts) M) :
    FnQ P w K mg base (k + 1) f fd ps (spT n F) := by
  refine fnQ FD S (fun vs H Q E h => h.1.trans hn.symm) fun cdv A outer s H vs Q E hr hq h => ?_
  obtain ⟨hl, G, M, ts, Qt, st, r, hF, kq⟩ := h
  obtain ⟨w0, hw0, hw⟩ := hb cdv A outer s H E hr hq
  refine ⟨_, hw0.ps.nox, G, M, startT N ts, endsF Qt, st, ?_, hw ts M Qt (r.len.trans hl) hF, ?_, ?_, fun _ _ _ _ _ q => q.elim, fun _ _ _ _ _ q => q.elim⟩
  · unfold startT L2.start
    rw [← r.len]
    exact RepS.start _ r
  · rintro s' M' G' H' σ' ⟨M2, sub, q⟩ e _
    exact kq .non M2 G' H' .non q (e.drop sub) rep_non
  · rintro t M' G' H' v ⟨M2, sub, q⟩ e rt
    exact kq t M2 G' H' v q (e.drop sub) rt
end
/-- a def of the text that keeps its promise where nothing is being shown -/
structure KpQ (P : Program) (w : World) (K : PySem.W.Frag) (mg : Str → Option Value) (base : Heap) (at_ : Str × Option Str) (k n : Nat) (F : TSpec) : Prop where
  ex : ∃ fd ps, FnQ P w K mg base k (He.fAd K at_) fd ps (spT n F) ∧ Binds K fd ps [] ∧ PySem.W.keepIn K (.ref (He.fAd K at_)) = true
section
variable {P : Program} {w : World} {K : PySem.W.Frag} {mg : Str → Option Value} {base : Heap}
/-- a def with a family of promises -/
theorem kpq_defx {α : Type} {d : He.DefD} {N ps : List Str} {k n : Nat} {F : α → TSpec} (c : Fx K mg) (hd : d ∈ fnL) (S : FnScope N ps d.scope) (hn : ps.length = n)
    (hb : ∀ {fd : FuncData}, FunD K d.name d.qual d.params d.body d.scope (d.dvs K) (d.kws K) (He.fAd K d.at_) fd → Binds K fd ps [])
    (hbody : ∀ (x : α) (cdv : Value) (A : Around) (outer : List Env) (s : Shared) (H : Hp) (E : XK), Room k (A.deeper (envOfC d.qual d.scope s.heap.objs.size (He.fAd K d.at_) cdv)) → Quiet (A.deeper (envOfC d.qual d.scope s.heap.objs.size (He.fAd K d.at_) cdv)) →
      ∃ w0, QSs (cxOf CX0 P w K mg base N d.qual d.scope (He.fAd K d.at_) cdv A outer s H E).nox d.body w0 ∧ ∀ ts M Q, ts.length = n → F x ts M Q → w0 (endsF Q) (startT N ts) M) :
    KpQ P w K mg base d.at_ (k + 1) n (fun ts M Q => ∃ x, F x ts M Q) := by
  obtain ⟨fd, FD⟩ := c.fn hd
  have sp : ∀ vs H Q E, spT n (fun ts M Q => ∃ x, F x ts M Q) vs H Q E → ∃ x, spT n (F x) vs H Q E := fun vs H Q E ⟨h, G, M, ts, Qt, a, b, ⟨x, f⟩, e⟩ => ⟨x, h, G, M, ts, Qt, a, b, f, e⟩
  refine ⟨fd, ps, ⟨fun vs H Q E h => ?_, fun hr hq he hb hv hs => ?_⟩, hb FD, FD.kp⟩
  · obtain ⟨x, h'⟩ := sp _ _ _ _ h
    exact (fnQT FD S hn (hbody x)).fits _ _ _ _ h'
  · obtain ⟨x, h'⟩ := sp _ _ _ _ hs
    exact (fnQT FD S hn (hbody x)).goes hr hq he hb hv h'
end
section
variable {X : Cx} {k n : Nat} {F : TSpec} {x : Str} {p pos : Pos} {e : Expr} {es : List Expr} {u : WA} {t : TA} {sp : Sp} {f : Addr} {fd : FuncData} {ps : List Str}
theorem run_fnQ {pins : List (Addr × Obj)} {σ : L2.St} {H : Hp} {s : Shared} {Q : VK} {us : List Value} {vs : List V} (F : FnQ X.prog X.w X.K X.mg X.base k f fd ps sp) (hr : Room k X.A) (hq : Quiet X.A) (hb : Binds X.K fd ps [])
    (I : Inv X pins σ H s) (r : Vals vs us) (h : sp vs H Q E0) : wpAny (model X.prog X.w) X.A (call (.ref f) us) (EP X pins σ Q) X.xe s := by
  have n := F.fits _ _ _ _ h
  have bd := hb s us I.kIn (by rw [List.append_nil, ← r.length]; exact n)
  rw [List.append_nil] at bd
  refine wpAny_call (codeAny_mono (F.goes hr hq I.env0 bd r h) fun rs s' z => ?_)
  cases rs with
  | error e => exact pass0 pins σ H s e s' I z
  | ok fl =>
    cases fl with
    | ret u => exact I.after z
    | next => exact z.elim
    | brk => exact z.elim
    | cont => exact z.elim
theorem pe_callQ (F : FnQ X.prog X.w X.K X.mg X.base k f fd ps sp) (hr : Room k X.A) (hq : Quiet X.A) (hg : Gl X x) (hm : X.mg x = some (.ref f)) (hk : PySem.W.keepIn X.K (.ref f) = true) (hb : Binds X.K fd ps [])
    (ha : PA X (e :: es) t) (hdb : (x == ("__debug__" : Str)) = false) (he : starEach (e :: es) X.env = (false, eval e X.env) :: starEach es X.env) (hpl : (backTo pos (starEach es X.env)).any (·.1) = false) :
    PE X (.Call (.Name x p) (e :: es) [] pos) (tCall sp [] E0 t) := by
  constructor
  intro pins s σ H Q I h
  refine wpAny_Call_Name_kw (ld_glob I hg hm (PySem.W.callWith_K (h₀ := X.base) I.ok.mod.kin hk (thn (ha.run pos pins s σ H _ I h) ?_) he hpl) hdb)
  rintro us s1 ⟨vs, H1, I1, r, q⟩
  refine ⟨I1.kIn, run_fnQ F hr hq hb I1 r ?_⟩
  rw [← List.append_nil vs]
  exact q
theorem qe_fnQ (h : KpQ X.prog X.w X.K X.mg X.base (x, none) k n F) (hr : Room k X.A) (hq : Quiet X.A) (hm : X.mg x = some (.ref (He.ga X.K x))) (ha : QA X (e :: es) u) (hg : Gl X x := by rfl) (hdb : (x == ("__debug__" : Str)) = false := by decide)
    (he : starEach (e :: es) X.env = (false, eval e X.env) :: starEach es X.env := by rfl) (hpl : (backTo pos (starEach es X.env)).any (·.1) = false := by rfl) : QE X (.Call (.Name x p) (e :: es) [] pos) (wFn n F u) := by
  obtain ⟨fd, ps, a, b, c⟩ := h.ex
  exact ⟨PEw (pe_callQ a hr hq hg hm c b ha.pa hdb he hpl) fn_read, wFn_mono ha.mono⟩
end
end Tr

set_option Elab.async false
set_option linter.all false
set_option maxRecDepth 100000
set_option maxHeartbeats 4000000
namespace Tr
open PySem PySem.Spec L2 PyProof PyProof.Rows
/-! ### repr of nothing, or of a number and texts -/
abbrev Shn : Type := Option (Int × List Str)
def shT : Shn → T
  | none => .non
  | some (i, ws) => .tup [.int i, .tup (ws.map T.str)]
def shD : Shn → PyData
  | none => .none
  | some (i, ws) => .tuple [.int i, .tuple (ws.map PyData.str)]
def ShOk (o : Shn) : Prop := ∀ i ws, o = some (i, ws) → 0 ≤ i ∧ i ≤ 999999999999 ∧ ws.length ≤ 1000 ∧ ∀ x ∈ ws, PyData.strOk x = true ∧ x.length ≤ 8
def ShV (H : Hp) (v : V) : Shn → Prop
  | none => v = .non
  | some (i, ws) => ∃ a b, v = .ref a ∧ H a = some (.tup [.int i, .ref b]) ∧ H b = some (.tup (ws.map V.str))
def rRepr : List V → Hp → VK → Prop := fun vs H Q => ∃ o v, vs = [v] ∧ ShV H v o ∧ ShOk o ∧ Q (.str (shD o).shown) H
theorem reads_strs {h : Heap} : ∀ {ws : List Str} {us : List Value}, Vals (ws.map V.str) us → ReadsAll h us (ws.map PyData.str) []
  | [], _, r => by
    cases r
    exact .nil
  | x :: ws, _, r => by
    cases r with
    | cons r1 r2 =>
      obtain ⟨t, rfl⟩ := r1
      exact .cons (.str x t) (reads_strs r2)
theorem lay_strs : ∀ {ws : List Str}, (∀ x ∈ ws, PyData.strOk x = true ∧ x.length ≤ 8) → PyData.canLayAll0 (ws.map PyData.str) = true ∧ PyData.depthAll (ws.map PyData.str) = 0 ∧ PyData.weightAll (ws.map PyData.str) ≤ 9 * ws.length ∧
    PyData.showableAll (ws.map PyData.str) = true ∧ PyData.hasDictAll (ws.map PyData.str) = false ∧ PyData.intsShortAll 13 (ws.map PyData.str) = true
  | [], _ => by
    refine ⟨by simp [PyData.canLayAll0], by simp [PyData.depthAll], by simp [PyData.weightAll], by simp [PyData.showableAll], by simp [PyData.hasDictAll], by simp [PyData.intsShortAll]⟩
  | x :: ws, h => by
    obtain ⟨a1, a2, a3, a4, a5, a6⟩ := lay_strs (ws := ws) fun y hy => h y (List.mem_cons_of_mem _ hy)
    obtain ⟨b1, b2⟩ := h x List.mem_cons_self
    have b2 : x.cps.size ≤ 8 := b2
    rw [List.map_cons]
    refine ⟨by simp [PyData.canLayAll0, PyData.canLay0, a1, b1], by simp [PyData.depthAll, PyData.depth, a2], ?_, by simp [PyData.showableAll, PyData.showable, a4], by simp [PyData.hasDictAll, PyData.hasDict, a5], by simp [PyData.intsShortAll, PyData.intsShort, a6]⟩
    simp only [PyData.weightAll, PyData.weight, List.length_cons]
    omega
theorem sh_ok {i : Int} {ws : List Str} (h : ShOk (some (i, ws))) : PyData.layable0 (shD (some (i, ws))) = true ∧ (shD (some (i, ws))).showable = true ∧ (shD (some (i, ws))).hasDict = false ∧ (shD (some (i, ws))).intsShort 13 = true ∧ (shD (some (i, ws))).depth = 2 := by
  obtain ⟨h0, h1, h2, h3⟩ := h i ws rfl
  obtain ⟨a1, a2, a3, a4, a5, a6⟩ := lay_strs h3
  have lg : i.natAbs.log2 < 64 := by
    by_cases z : i.natAbs = 0
    · rw [z]; decide
    · exact (Nat.log2_lt z).2 (by have : (2 : Nat) ^ 64 = 18446744073709551616 := by decide
                                  omega)
  have w1 : PyData.weight (.int i) ≤ 64 := by
    simp only [PyData.weight]
    split <;> omega
  have sh : (PyData.shown (.int i)).length ≤ 13 := PyData.shown_int_le2 (by omega) h1
  have dp : (shD (some (i, ws))).depth = 2 := by simp [shD, PyData.depth, PyData.depthAll, a2]
  refine ⟨?_, ?_, ?_, ?_, dp⟩
  · unfold PyData.layable0
    have e1 : PyData.canLay0 (shD (some (i, ws))) = true := by simp [shD, PyData.canLay0, PyData.canLayAll0, a1]
    have e2 : PyData.weight (shD (some (i, ws))) ≤ 2 ^ 20 := by
      have : (2 : Nat) ^ 20 = 1048576 := by decide
      have e3 : PyData.weight (shD (some (i, ws))) = PyData.weight (.int i) + 1 + (PyData.weightAll (ws.map PyData.str) + 1 + 0) := by simp [shD, PyData.weight, PyData.weightAll]
      omega
    rw [e1, dp, decide_eq_true e2]
    rfl
  · have e : i.natAbs.log2 < 1920 := by omega
    simp [shD, PyData.showable, PyData.showableAll, a4, e]
  · simp [shD, PyData.hasDict, PyData.hasDictAll, a5]
  · simp only [shD, PyData.intsShort, PyData.intsShortAll, a6, Bool.and_true, Bool.and_self]
    exact decide_eq_true sh
section
variable {X : Cx} {k : Nat}
theorem call_reprQ (hr : Room k X.A) (hq : Quiet X.A) : CallR X (.builtin "repr") rRepr := by
  intro pins s σ H xs us Q I r h
  obtain ⟨o, v, rfl, hv, ok, q⟩ := h
  obtain ⟨u, rfl, ru⟩ := vals1 r
  cases o with
  | none =>
    have hv : v = .non := hv
    subst hv
    cases (show u = Value.none from ru)
    exact PySem.P.repr_of_none ⟨.str _, H, I.tok _, ⟨_, rfl⟩, q⟩
  | some p =>
    obtain ⟨i, ws⟩ := p
    obtain ⟨a, b, rfl, ha, hb⟩ := hv
    cases (show u = Value.ref a from ru)
    obtain ⟨_, its, ri, oa, ga, ca, na, da⟩ := (show ObjOk X.prog X.w H s.heap a (.tup _) from I.hok a _ ha)
    obtain ⟨_, jts, rj, ob, gb, cb, nb, db⟩ := (show ObjOk X.prog X.w H s.heap b (.tup _) from I.hok b _ hb)
    obtain ⟨y1, y2, rfl, ⟨t, rfl⟩, r2⟩ := vals2 ri
    cases (show y2 = Value.ref b from r2)
    obtain ⟨l1, l2, l3, l4, l5⟩ := sh_ok ok
    have rd : Reads s.heap (.ref a) (shD (some (i, ws))) _ := .tuple ga ca da (.cons (.int i t) (.cons (.tuple gb cb db (reads_strs rj)) .nil))
    have sz := shown_le13 l1 l4
    have un := hr.units
    refine repr_of_reads' rd l2 (fun z => by rw [l3] at z; cases z) hq (by rw [l5]; omega) (fun _ _ e => e) (fun h' u tk hk => ?_) (Nat.le_trans sz (by rw [sizeLine_eq]; decide))
    exact ⟨.str _, H, I.kept hk, ⟨_, rfl⟩, q⟩
def trRepr : T → Mh → TQ → Prop := fun t M Q => ∃ o : Shn, t = shT o ∧ ShOk o ∧ Q (.str (shD o).shown) M
theorem ct_repr (hr : Room k X.A) (hq : Quiet X.A) : CaT X (.builtin "repr") (c1 trRepr) := ct_1 (call_reprQ hr hq) (fun G M H t v Q Qv S r w kk => by
  obtain ⟨o, rfl, ok, q⟩ := w
  refine ⟨o, v, rfl, ?_, ok, kk.here S q (by unfold Rep; rfl)⟩
  cases o with
  | none =>
    unfold shT Rep at r
    exact r
  | some p =>
    obtain ⟨i, ws⟩ := p
    unfold shT Rep at r
    obtain ⟨a, vs, e, g, rs⟩ := r
    unfold Reps at rs
    obtain ⟨v1, q1, e1, rv1, rs⟩ := rs
    unfold Reps at rs
    obtain ⟨v2, q2, e2, rv2, rs⟩ := rs
    unfold Reps at rs
    unfold Rep at rv1 rv2
    obtain ⟨b, ws', e3, g3, r3⟩ := rv2
    subst rs
    subst e2
    subst e1
    subst rv1
    subst e3
    have e4 := Reps.strs r3
    subst e4
    exact ⟨a, b, e, S.gh _ _ g, S.gh _ _ g3⟩) fun t M Q Q' i ⟨o, e, ok, q⟩ => ⟨o, e, ok, i _ _ q⟩
end
end Tr

set_option Elab.async false
set_option linter.all false
set_option maxRecDepth 100000
set_option maxHeartbeats 4000000
namespace Tr
open PySem PySem.Spec L2


section
variable {P : Program} {w : World} {K : PySem.W.Frag} {mg : Str → Option Value} {base : Heap}

def F_L_line_right (K : PySem.W.Frag) (L : Ln) : TSpec := fun ts M Q => ∃ b l m g a lk r nm cc xs, ts = [.adr b, .adr a, .str nm, .lst (intsT xs)] ∧ BookAt K M b l m g L ∧ M a = some (.dic lk (llT L)) ∧ LinesOk L r ∧ lget nm L = some cc ∧
  (∀ x ∈ xs, 0 ≤ x ∧ x ≤ 1000000000) ∧ xs.length ≤ 8 ∧ Q (.bl true) M
/-- what is due is a thing that can be shown -/
def dueS (x : Int) : Option (List Str) → Shn
  | none => none
  | some ws => some (x, ws)
theorem due_sh (x : Int) (o : Option (List Str)) : dueT x o = shT (dueS x o) := by
  cases o <;> rfl
theorem due_ok {z : LC} {x : Int} (ok : okC z) (hw : z.wt ≤ 30) (h0 : 0 ≤ x) (h1 : x ≤ 1000000000) : ShOk (dueS x (notesC z x)) := by
  intro i ws e
  cases en : notesC z x with
  | none =>
    rw [en] at e
    cases e
  | some vs =>
    rw [en] at e
    have e := Option.some.inj (show (some (x, vs) : Shn) = some (i, ws) from e)
    have e1 : x = i := congrArg Prod.fst e
    have e2 : vs = ws := congrArg Prod.snd e
    rw [e2] at en
    rw [← e1]
    have n := notes_ok z x ws ok en
    have f := n.few
    refine ⟨h0, by omega, by omega, fun y hy => ?_⟩
    have hy := n.wd y hy
    exact ⟨word_ok hy, hy.hi⟩
theorem kpq_L_line_right (c : Fx K mg) : KpQ P w K mg base ("_law_line_right", none) 60 4 (fun ts M Q => ∃ L : Ln, (F_L_line_right K L) ts M Q) := by
  refine kpq_defx (d := d_L_line_right) c M_L_line_right S_L_line_right rfl (fun FD => FD.bindsN fun _ _ _ _ _ _ us hl => match us, hl with | [_, _, _, _], _ => rfl) fun L => ?_
  have k_L_at := kp_L_at (P := P) (w := w) (base := base) c
  have m_meant := mk_meant (P := P) (w := w) (base := base) c
  have m_now := mk_now (P := P) (w := w) (base := base) c
  have m_size := mk_size (P := P) (w := w) (base := base) c
  have k_L_size := L_size_all (P := P) (w := w) (base := base) c L 30
  have k_L_notes := L_notes_all (P := P) (w := w) (base := base) c L 30
  have k_L_has_as := L_has_as_all (P := P) (w := w) (base := base) c 40
  refine fun cdv A outer s H E hr hq => ⟨_, (
    (qss_cons (qs_if (qt_cmp ot_ne (qe_meth0x (fun C e => (m_size C e).ok (hr.mono (by omega))) (qe_methx (fun C e => (m_meant C e).ok (hr.mono (by omega))) (qv 0) (qa_cons (qv 2) qa_nil))) (qe_fn (k_L_size) (hr.mono (by omega)) c.g_law_size (qa_cons (qe_dgetx (Tr.Room.u1 hr) (qv 1) (qv 2)) (qa_cons (qv 1) qa_nil))))
      (qss_one (qs_ret qe_bl))
      qss_nil)
      (qss_cons (qs_for PassesOwn.never rfl (qi_tup (qe_tup (qa_cons (qe_methx (fun C e => (m_meant C e).ok (hr.mono (by omega))) (qv 0) (qa_cons (qv 2) qa_nil)) (qa_cons (qe_methx (fun C e => (m_now C e).ok (hr.mono (by omega))) (qv 0) (qa_cons (qv 2) qa_nil)) qa_nil)))) (qg_name 4 S_L_line_right.nd)
      (qss_cons (qs_if (qt_val (qe_fn (k_L_has_as) (hr.mono (by omega)) c.g_law_has_as (qa_cons (qv 4) qa_nil)))
      (qss_one (qs_ret qe_bl))
      qss_nil)
      (qss_one (qs_for PassesOwn.never rfl (qi_lst (qv 3)) (qg_name 5 S_L_line_right.nd)
      (qss_cons (qs_set 6 S_L_line_right.nd (qe_fn (k_L_notes) (hr.mono (by omega)) c.g_law_notes (qa_cons (qe_dgetx (Tr.Room.u1 hr) (qv 1) (qv 2)) (qa_cons (qv 5) (qa_cons (qv 1) qa_nil)))))
      (qss_cons (qs_set 7 S_L_line_right.nd (qe_ifExp (qt_cmp ot_isN (qv 6) qe_non) qe_non (qe_tup (qa_cons (qv 5) (qa_cons (qv 6) qa_nil)))))
      (qss_one (qs_if (qt_cmp ot_ne (qe_callB (ct_repr hr hq) c.b_repr (qa_cons (qe_fn (k_L_at) (hr.mono (by omega)) c.g_law_at (qa_cons (qv 4) (qa_cons (qv 5) qa_nil))) qa_nil)) (qe_callB (ct_repr hr hq) c.b_repr (qa_cons (qv 7) qa_nil)))
      (qss_one (qs_ret qe_bl))
      qss_nil))))))))
      (qss_one (qs_ret qe_bl))))), ?_⟩
  rintro ts M Q hl ⟨b, l, m, g, a, lk, r, nm, cc, xs, rfl, bk, ha, ok, hnm, hx, h8, q⟩
  obtain ⟨z, hz, hw⟩ := ok.full nm cc hnm
  have okz : okC z := exp_ok ok.ok hz (ok.wd nm cc hnm)
  obtain ⟨fr, hh⟩ := exp_free hz
  have hz2 : exp L 29 cc = some z := by
    have hz : (lget nm L).bind (exp L 29) = some z := hz
    rw [hnm] at hz
    exact hz
  have hg : kget (.inr nm) (llT L) = some (lcT cc) := by rw [kget_ll, hnm]; rfl
  obtain ⟨C, fs, ez, iz⟩ := pc_i (K := K) z
  refine ⟨_, _, bk.book, rfl, rfl, rfl, cl_of ⟨b, l, m, g, L, nm, cc, 30, z, rfl, bk, hnm, hz, ?_⟩⟩
  refine ⟨C, fs, by rw [ez]; rfl, iz.is_, iz.size, rfl, cl_of ⟨z, rfl, ?_⟩⟩
  refine ⟨lk, _, _, ha, rfl, lcT cc, hg, rfl, cl_of ⟨a, lk, cc, z, rfl, ha, exp_le hz2 (by omega), ?_⟩⟩
  refine no (by rw [decide_eq_true rfl]; rfl) ?_
  refine ⟨_, _, bk.book, rfl, rfl, rfl, cl_of ⟨b, l, m, g, L, nm, cc, 30, z, rfl, bk, hnm, hz, ?_⟩⟩
  refine ⟨_, _, bk.book, rfl, rfl, rfl, cl_of ⟨b, l, m, g, L, nm, cc, 30, z, rfl, bk, hnm, hz, ?_⟩⟩
  refine ⟨Nat.le_of_ble_eq_true rfl, ?_⟩
  refine ⟨fun k s' M' => M' = M ∧ ∃ o4 o5 o6 o7, s' = [some (.adr b), some (.adr a), some (.str nm), some (.lst (intsT xs)), o4, o5, o6, o7], ⟨rfl, none, none, none, none, rfl⟩, fun _ _ _ _ => kT, ?_, ?_⟩
  · rintro k s' M' t et ⟨rfl, o4, o5, o6, o7, rfl⟩
    have e : t = pcT K z := by
      have := List.mem_of_getElem? et
      rcases List.mem_cons.mp this with e | e
      · exact e
      · exact List.mem_singleton.mp e
    subst e
    refine ⟨rfl, cl_of ⟨z, rfl, by omega, fr, by omega, no rfl ?_⟩⟩
    refine ⟨fun i s' M'' => M'' = M' ∧ ∃ o5 o6 o7, s' = [some (.adr b), some (.adr a), some (.str nm), some (.lst (intsT xs)), some (pcT K z), o5, o6, o7], ⟨rfl, o5, o6, o7, rfl⟩, fun _ _ _ _ => kT, ?_, ?_⟩
    · rintro i s' M'' t et ⟨rfl, p5, p6, p7, rfl⟩
      obtain ⟨x, hxx, rfl⟩ := List.mem_map.mp (List.mem_of_getElem? et)
      obtain ⟨x0, x1⟩ := hx x hxx
      have na : NAok 39 z x := ⟨okz, fr, by omega, hw, x0⟩
      have sk := due_ok (x := x) okz hw x0 x1
      have nn : valN z x = notesC z x := valN_nn (by omega)
      refine ⟨lk, _, _, ha, rfl, lcT cc, hg, rfl, cl_of ⟨a, lk, cc, z, x, rfl, ha, exp_le hz2 (by omega), okz, hw, ?_⟩⟩
      rw [nn]
      cases e : notesC z x with
      | none =>
        rw [e] at sk
        refine yes rfl ⟨rfl, cl_of ⟨z, x, rfl, na, ?_⟩⟩
        rw [e]
        exact ⟨none, rfl, sk, none, rfl, sk, no (by rw [decide_eq_true rfl]; rfl) ⟨rfl, _, _, _, rfl⟩⟩
      | some ws =>
        rw [e] at sk
        refine no rfl ⟨Nat.le_of_ble_eq_true rfl, rfl, cl_of ⟨z, x, rfl, na, ?_⟩⟩
        rw [e]
        exact ⟨some (x, ws), rfl, sk, some (x, ws), rfl, sk, no (by rw [decide_eq_true rfl]; rfl) ⟨rfl, _, _, _, rfl⟩⟩
    · rintro s' M'' ⟨rfl, p5, p6, p7, rfl⟩
      exact ⟨rfl, _, _, _, _, rfl⟩
  · rintro s' M' ⟨rfl, o4, o5, o6, o7, rfl⟩
    exact ⟨M', Msub.refl M', q⟩
end
end Tr

set_option Elab.async false
set_option linter.all false
set_option maxRecDepth 100000
set_option maxHeartbeats 4000000
namespace Tr
open PySem PySem.Spec L2 PyProof PyProof.Rows
/-! ### the script: a list that stays as it is -/
def Scr (K : PySem.W.Frag) (H : Hp) (a : Addr) (xs : List V) : Prop :=
  (∃ o, H a = some (.frz o (.lst xs))) ∨
    ∃ (o : Obj) (its : Array Value) (n : Nat), K.lookup a = some o ∧ o.cls = .type "list" ∧ o.dict = none ∧ o.data = .seq its n ∧ its.size ≤ sizeLine ∧ Vals xs its.toList
theorem Scr.sql {K : PySem.W.Frag} {H : Hp} {a : Addr} {xs : List V} (h : Scr K H a xs) : SqL K H a xs := h.imp (fun ⟨o, e⟩ => .inr ⟨o, e⟩) id
section
variable {X : Cx} {a : Addr} {xs : List V}
theorem Scr.now {pins : List (Addr × Obj)} {σ : L2.St} {H : Hp} {s : Shared} (h : Scr X.K X.H_0 a xs) (I : Inv X pins σ H s) : Scr X.K H a xs := h.imp (fun ⟨o, e⟩ => ⟨o, I.base.frzs a o _ e⟩) id
def trLenScr (a : Addr) (n : Nat) : T → Mh → TQ → Prop := fun t M Q => t = .adr a ∧ Q (.int (n : Nat)) M
theorem ct_lenScr (h : Scr X.K X.H_0 a xs) : CaT X (.builtin "len") (c1 (trLenScr a xs.length)) :=
  ct_1 (r := fun vs H Q => vs = [.ref a] ∧ Q (.int (xs.length : Nat)) H) (fun pins s σ H ys us Q I r ⟨e, q⟩ => call_len_seq pins s σ H ys us Q I r ⟨a, xs, e, .inl (h.now I).sql, q⟩)
    (fun G M H t v Q Qv S r w k => by
      obtain ⟨rfl, q⟩ := w
      unfold Rep at r
      exact ⟨by rw [r], k.here S q rep_int⟩) fun t M Q Q' i w => ⟨w.1, i _ _ w.2⟩
def trIxScr (a : Addr) (ns : List Int) : T → T → Mh → TQ → Prop := fun x y M Q => ∃ j n, x = .adr a ∧ y = .int j ∧ 0 ≤ j ∧ ns[j.toNat]? = some n ∧ Q (.int n) M
theorem it_scr {ns : List Int} (h : Scr X.K X.H_0 a (ns.map V.int)) : IxT X (trIxScr a ns) := by
  refine ⟨⟨fun x y H Q => ∃ j n, x = .ref a ∧ y = .int j ∧ atI (ns.map V.int) j = some (.int n) ∧ Q (.int n) H,
    fun value slice pins s σ H x y v u Q I r1 r2 ⟨j, n, e1, e2, e3, q⟩ hs => ix_seq value slice pins s σ H x y v u Q I r1 r2 (.inl ⟨a, ns.map V.int, j, .int n, e1, e2, (h.now I).sql, e3, q⟩) hs, fun G M H x y xv yv Q Qv S rx ry w k => ?_⟩, fun x y M Q Q' i w => ?_⟩
  · obtain ⟨j, n, rfl, rfl, h0, e, q⟩ := w
    unfold Rep at rx ry
    refine ⟨j, n, rx, ry, ?_, k.here S q rep_int⟩
    have ej : j = ((j.toNat : Nat) : Int) := by omega
    rw [ej]
    exact atI_nat (by rw [List.getElem?_map, e]; rfl)
  · obtain ⟨j, n, e1, e2, h0, e, q⟩ := w
    exact ⟨j, n, e1, e2, h0, e, i _ _ q⟩
end
/-- a def's promise that knows the script -/
def spS (K : PySem.W.Frag) (a : Addr) (xs : List V) (n : Nat) (F : TSpec) : Sp := fun vs H Q E => Scr K H a xs ∧ spT n F vs H Q E
structure KpS (P : Program) (w : World) (K : PySem.W.Frag) (mg : Str → Option Value) (base : Heap) (a : Addr) (xs : List V) (at_ : Str × Option Str) (k n : Nat) (F : TSpec) : Prop where
  ex : ∃ fd ps, FnOk P w K mg base CX0 k (He.fAd K at_) fd ps (spS K a xs n F) ∧ Binds K fd ps [] ∧ PySem.W.keepIn K (.ref (He.fAd K at_)) = true
theorem kps_def {P : Program} {w : World} {K : PySem.W.Frag} {mg : Str → Option Value} {base : Heap} {a : Addr} {xs : List V} {d : He.DefD} {N ps : List Str} {k n : Nat} {F : TSpec} (c : Fx K mg) (hd : d ∈ fnL) (S : FnScope N ps d.scope) (hn : ps.length = n)
    (hb : ∀ {fd : FuncData}, FunD K d.name d.qual d.params d.body d.scope (d.dvs K) (d.kws K) (He.fAd K d.at_) fd → Binds K fd ps [])
    (hbody : ∀ (cdv : Value) (A : Around) (outer : List Env) (s : Shared) (H : Hp) (E : XK), Room k (A.deeper (envOfC d.qual d.scope s.heap.objs.size (He.fAd K d.at_) cdv)) → Scr K H a xs →
      ∃ w0, QSs (cxOf CX0 P w K mg base N d.qual d.scope (He.fAd K d.at_) cdv A outer s H E).nox d.body w0 ∧ ∀ ts M Q, ts.length = n → F ts M Q → w0 (endsF Q) (startT N ts) M) :
    KpS P w K mg base a xs d.at_ (k + 1) n F := by
  obtain ⟨fd, FD⟩ := c.fn hd
  refine ⟨fd, ps, FD.ok S (fun vs H Q E h => h.2.1.trans hn.symm) (fun cdv A outer s H vs Q E hr h => ?_), hb FD, FD.kp⟩
  obtain ⟨scr, hl, G, M, ts, Qt, st, r, hF, kq⟩ := h
  obtain ⟨w0, hw0, hw⟩ := hbody cdv A outer s H E hr scr
  refine ⟨_, hw0.ps.nox, G, M, startT N ts, endsF Qt, st, ?_, hw ts M Qt (r.len.trans hl) hF, ?_, ?_, fun _ _ _ _ _ q => q.elim, fun _ _ _ _ _ q => q.elim⟩
  · unfold startT L2.start
    rw [← r.len]
    exact RepS.start _ r
  · rintro s' M' G' H' σ' ⟨M2, sub, q⟩ e _
    exact kq .non M2 G' H' .non q (e.drop sub) rep_non
  · rintro t M' G' H' v ⟨M2, sub, q⟩ e rt
    exact kq t M2 G' H' v q (e.drop sub) rt
section
variable {X : Cx} {k n : Nat} {F : TSpec} {x : Str} {p pos : Pos} {e : Expr} {es : List Expr} {u : WA} {a : Addr} {xs : List V}
theorem qe_fnS (h : KpS X.prog X.w X.K X.mg X.base a xs (x, none) k n F) (scr : Scr X.K X.H_0 a xs) (hr : Room k X.A) (hm : X.mg x = some (.ref (He.ga X.K x))) (ha : QA X (e :: es) u) (hg : Gl X x := by rfl) (hdb : (x == ("__debug__" : Str)) = false := by decide)
    (he : starEach (e :: es) X.env = (false, eval e X.env) :: starEach es X.env := by rfl) (hpl : (backTo pos (starEach es X.env)).any (·.1) = false := by rfl) : QE X (.Call (.Name x p) (e :: es) [] pos) (wFn n F u) := by
  obtain ⟨fd, ps, Fk, hb, hk⟩ := h.ex
  refine ⟨PEw (t := tCall (spT n F) [] E0 (lA u)) ⟨fun pins s σ H Q I h => ?_⟩ fn_read, wFn_mono ha.mono⟩
  refine wpAny_Call_Name_kw (ld_glob I hg hm (PySem.W.callWith_K (h₀ := X.base) I.ok.mod.kin hk (thn (ha.pa.run pos pins s σ H _ I h) ?_) he hpl) hdb)
  rintro us s1 ⟨vs, H1, I1, r, q⟩
  exact ⟨I1.kIn, run_fn Fk hr hb .nil pass0 I1 r ⟨by exact scr.now I1, q⟩⟩
end
/-! ### the pot -/
def F_L_potS (a : Addr) (ns : List Int) : TSpec := fun ts M Q => ∃ (k : Int), ts = [.adr a, .int k] ∧ 0 ≤ k ∧ k ≤ 100 ∧ ∀ p M', M p = none → PotAt M' p → Oth p M M' → Q (.adr p) M'
theorem kps_L_pot {P : Program} {w : World} {K : PySem.W.Frag} {mg : Str → Option Value} {base : Heap} {a : Addr} {ns : List Int} (c : Fx K mg) : KpS P w K mg base a (ns.map V.int) ("_law_pot", none) 1 2 (F_L_potS a ns) := by
  refine kps_def (d := d_L_pot) c M_L_pot S_L_pot rfl (fun FD => FD.bindsN fun _ _ _ _ _ _ us hl => match us, hl with | [_, _], _ => rfl) fun cdv A outer s H E hr scr => ⟨_, (
    (qss_cons (qs_set 2 S_L_pot.nd (qe_ifExp (qt_cmp ot_lt (qv 1) (qe_callB (ct_lenScr scr) c.b_len (qa_cons (qv 0) qa_nil))) (qe_ix (it_scr scr) (qv 0) (qv 1)) qe_int))
      (qss_one (qs_ret (qe_lstO (qa_cons (qe_callB (ct_max2 rfl) c.b_max (qa_cons qe_int (qa_cons (qe_op ot_sub (qv 2) (qe_op ot_pow qe_int qe_int)) qa_nil))) (qa_cons (qe_op ot_mod (qe_op ot_pow (qe_op ot_add (qe_op ot_mul (qe_op ot_mod (qv 2) qe_int) qe_int) (qe_op ot_mul qe_int (qe_op ot_add (qv 1) qe_int))) qe_int) qe_int) (qa_cons qe_int qa_nil)))))))), ?_⟩
  rintro ts M Q hl ⟨k, rfl, h0, h1, q⟩
  have m0 : ∀ cell : Int, 0 ≤ cell % 2147483629 ∧ cell % 2147483629 < 2147483629 := fun cell => ⟨Int.emod_nonneg _ (by decide), Int.emod_lt_of_pos _ (by decide)⟩
  have m1 : ∀ cell : Int, ((cell % 2147483629 * 69621 + 40503 * (k + 1)).natAbs < 2 ^ 64) := fun cell => by
    have := m0 cell
    omega
  have m2 : ∀ x : Int, 0 ≤ x % 2147483563 ∧ x % 2147483563 < 2147483563 := fun cell => ⟨Int.emod_nonneg _ (by decide), Int.emod_lt_of_pos _ (by decide)⟩
  have m3 : ∀ x : Int, 0 ≤ (if x > 0 then x else 0) := fun x => by split <;> omega
  have z1 : (0 : Int) < 2147483629 := by decide
  have z2 : (0 : Int) < 2147483563 := by decide
  have m4 : ∀ x : Int, x % 2147483563 < 2147483629 := fun x => by have := (m2 x).2; omega
  by_cases hk : k < ((ns.map V.int).length : Nat)
  · have hk2 : k.toNat < ns.length := by rw [List.length_map] at hk; omega
    refine ⟨rfl, yesd hk ⟨_, _, rfl, rfl, h0, List.getElem?_eq_getElem hk2, ?_⟩⟩
    refine ⟨⟨by decide, by decide, by decide⟩, trivial, z1, .inr (by decide), .inl (by decide), ⟨by decide, by decide, m1 _⟩, z2, Nat.le_of_ble_eq_true rfl, fun p hp => ?_⟩
    exact ⟨_, Msub.refl _, q p _ hp ⟨_, _, _, mset_same, m3 _, (m2 _).1, m4 _, by decide⟩ Oth.set⟩
  · refine ⟨rfl, nod hk ?_⟩
    refine ⟨⟨by decide, by decide, by decide⟩, trivial, z1, .inr (by decide), .inl (by decide), ⟨by decide, by decide, m1 0⟩, z2, Nat.le_of_ble_eq_true rfl, fun p hp => ?_⟩
    exact ⟨_, Msub.refl _, q p _ hp ⟨_, _, _, mset_same, m3 _, (m2 _).1, m4 _, by decide⟩ Oth.set⟩
end Tr

set_option Elab.async false
set_option linter.all false
set_option maxRecDepth 100000
set_option maxHeartbeats 4000000
namespace Tr
open PySem PySem.Spec L2
open PyProof.Rows (envOfC)
/-! ### the law -/
/-- no dict and no instance stands there -/
def NoD (M : Mh) (p : Addr) : Prop := ∀ o, M p = some o → ∃ xs, o = .lst xs
theorem NoD.of_none {M : Mh} {p : Addr} (h : M p = none) : NoD M p := fun o e => by
  rw [h] at e
  cases e
theorem PotAt.nod {M : Mh} {p : Addr} (h : PotAt M p) : NoD M p := fun o e => by
  obtain ⟨_, _, _, h, _⟩ := h
  rw [h] at e
  cases e
  exact ⟨_, rfl⟩
theorem BookAt.keep {K : PySem.W.Frag} {M M' : Mh} {b l m g : Addr} {L : Ln} (h : BookAt K M b l m g L) (k : ∀ x, (x = b ∨ x = l ∨ x = m ∨ x = g) → M' x = M x) : BookAt K M' b l m g L := by
  obtain ⟨kvs, e1, r1⟩ := h.means
  obtain ⟨ch, e2, r2⟩ := h.chs
  exact ⟨(k b (.inl rfl)).trans h.book, (k l (.inr (.inl rfl))).trans h.lines, ⟨kvs, (k m (.inr (.inr (.inl rfl)))).trans e1, r1⟩, ⟨ch, (k g (.inr (.inr (.inr rfl)))).trans e2, r2⟩, h.lm, h.lg, h.mg⟩
/-- where the law stands: its book, its lines -/
structure LwAt (K : PySem.W.Frag) (M : Mh) (b a : Addr) (L : Ln) (ws : List Str) : Prop where
  bk : ∃ l m g, BookAt K M b l m g L ∧ a ≠ b ∧ a ≠ l ∧ a ≠ m ∧ a ≠ g
  ln : M a = some (.dic .un (llT L))
  ok : ∃ r, LinesOk L r
  sub : ∀ j ∈ L.map (·.1), j ∈ ws
theorem BookAt.ne_lst {K : PySem.W.Frag} {M : Mh} {b l m g : Addr} {L : Ln} (h : BookAt K M b l m g L) {p : Addr} (n : NoD M p) : ∀ x, (x = b ∨ x = l ∨ x = m ∨ x = g) → x ≠ p := by
  obtain ⟨kvs, e1, r1⟩ := h.means
  obtain ⟨ch, e2, r2⟩ := h.chs
  rintro x (rfl | rfl | rfl | rfl) rfl
  · obtain ⟨_, e⟩ := n _ h.book
    cases e
  · obtain ⟨_, e⟩ := n _ h.lines
    cases e
  · obtain ⟨_, e⟩ := n _ e1
    cases e
  · obtain ⟨_, e⟩ := n _ e2
    cases e
theorem LwAt.ne_p {K : PySem.W.Frag} {M : Mh} {b a p : Addr} {L : Ln} {ws : List Str} (h : LwAt K M b a L ws) (n : NoD M p) : a ≠ p := fun e => by
  obtain ⟨_, z⟩ := n _ (by rw [← e]; exact h.ln)
  cases z
theorem LwAt.oth {K : PySem.W.Frag} {M M' : Mh} {b a p : Addr} {L : Ln} {ws : List Str} (h : LwAt K M b a L ws) (o : Oth p M M') (n : NoD M p) : LwAt K M' b a L ws := by
  obtain ⟨l, m, g, bk, d⟩ := h.bk
  exact ⟨⟨l, m, g, bk.keep fun x hx => o x (bk.ne_lst n x hx), d⟩, (o a (h.ne_p n)).trans h.ln, h.ok, h.sub⟩
def endW (K : PySem.W.Frag) : WS :=
  wSeq (wAsg (wFn 2 (fun ts M Q => ∃ L : Ln, (F_L_spots L) ts M Q) (wCons (wVar 5) (wCons (wVar 3) wNil))) (wName 10))
    (wIf (wNot (wTest (wCall (c1 (trAll fun bs => bs.all id)) (wCons (wLockE (wLc (fun s M Q => wVar 3 s M fun t M1 => dkI t M1 keysT Q) [8] (bd1 8) wYes
      (wFn 4 (fun ts M Q => ∃ L : Ln, (F_L_line_right K L) ts M Q) (wCons (wVar 2) (wCons (wVar 3) (wCons (wVar 8) (wCons (wVar 10) wNil))))))) wNil)))) (wRet (wC (.bl false))) wNext)
theorem law_tail {K : PySem.W.Frag} {D : EndsT} {M : Mh} {b a p a0 : Addr} {L : Ln} {ws : List Str} {o4 o6 o7 o8 o9 o10 : Option T} (lw : LwAt K M b a L ws) (hp : PotAt M p)
    (fin : ∀ M' o, LwAt K M' b a L ws → D.nx [some (.adr a0), some (.lst (strsT1 ws)), some (.adr b), some (.adr a), o4, some (.adr p), o6, o7, o8, o9, o] M') :
    endW K D [some (.adr a0), some (.lst (strsT1 ws)), some (.adr b), some (.adr a), o4, some (.adr p), o6, o7, o8, o9, o10] M := by
  obtain ⟨r, ok⟩ := lw.ok
  refine ⟨rfl, cl_of ⟨L, p, a, rfl, hp, lw.ln, ok.told, fun xs N hx h8 p2 o2 => ?_⟩⟩
  have lw2 := lw.oth o2 hp.nod
  obtain ⟨l, m, g, bk, nb, nl, nm, ng⟩ := lw2.bk
  refine ⟨a, _, lw2.ln, fun o vs => ⟨a, o, vs, _, rfl, mset_same, ?_⟩⟩
  have bk2 : BookAt K (mset N a (.dic (.lk o vs) (llT L))) b l m g L := bk.keep fun x hx => by
    rcases hx with rfl | rfl | rfl | rfl
    · exact mset_ne nb.symm
    · exact mset_ne nl.symm
    · exact mset_ne nm.symm
    · exact mset_ne ng.symm
  refine lc_map (ts := keysT (llT L)) (M1 := mset N a (.dic (.lk o vs) (llT L))) (fun _ => .bl true) mset_same (by rw [keysT_lenL]; have := ok.few; omega) (fun t ht => ?_) ?_
  · obtain ⟨i, e⟩ := List.mem_iff_getElem?.mp ht
    obtain ⟨k1, c1, hm, rfl, hi⟩ := keys_atL e
    have hg := lget_at ok.nd hm
    exact ⟨_, rfl, fun Q' q' => ⟨rfl, cl_of ⟨L, b, l, m, g, a, .lk o vs, r, k1, c1, xs, rfl, bk2, mset_same, ok, hg, hx, h8, q'⟩⟩⟩
  · refine ⟨mset_same, (keysT (llT L)).map fun _ => true, by rw [List.map_map]; rfl, ?_⟩
    have e : ((keysT (llT L)).map fun _ => true).all id = true := by
      rw [List.all_map]
      exact List.all_eq_true.mpr fun _ _ => rfl
    dsimp only
    rw [e, mset_set, mset_id lw2.ln]
    exact no rfl (fin N _ lw2)
def putW (K : PySem.W.Frag) : WS :=
  wSeq (wDPutx (wVar 3) (wVar 7) (wFn 5 (fun ts M Q => ∃ L : Ln, (F_L_new_card L) ts M Q) (wCons (wVar 5) (wCons (wVar 3) (wCons (wVar 7) (wCons (wVar 1) (wCons (wC (.int 2)) wNil)))))))
    (wDrop (wMethx (fun C => C = He.ga K "Book") "put" 3 (fun ts M Q => ∃ L' : Ln, (F_Book_put K L') ts M Q) (wVar 2) (wCons (wVar 7) (wCons (wFn 1 (F_L_made K 40) (wCons (wDGetx (wVar 3) (wVar 7)) wNil)) wNil))))
theorem law_put {K : PySem.W.Frag} {D : EndsT} {M : Mh} {b a p a0 : Addr} {L : Ln} {ws : List Str} {nm : Str} {o4 o6 o8 o9 o10 : Option T} (lw : LwAt K M b a L ws) (hp : PotAt M p) (wd : ∀ x ∈ ws, isW x) (l5 : ws.length ≤ 5) (hin : nm ∈ ws)
    (fin : ∀ M' L', LwAt K M' b a L' ws → PotAt M' p → D.nx [some (.adr a0), some (.lst (strsT1 ws)), some (.adr b), some (.adr a), o4, some (.adr p), o6, some (.str nm), o8, o9, o10] M') :
    putW K D [some (.adr a0), some (.lst (strsT1 ws)), some (.adr b), some (.adr a), o4, some (.adr p), o6, some (.str nm), o8, o9, o10] M := by
  obtain ⟨r, ok⟩ := lw.ok
  refine ⟨rfl, cl_of ⟨L, p, a, r, nm, ws, rfl, hp, lw.ln, ok, wd, l5, hin, lw.sub, fun cc N4 r' ok' p4 o4 => ?_⟩⟩
  have lw4 := lw.oth o4 hp.nod
  have few := ok.few
  refine ⟨a, _, _, rfl, lw4.ln, rfl, by rw [llT_len]; omega, ?_⟩
  rw [← ll_put]
  obtain ⟨l, m, g, bk, nb, nl, nm', ng⟩ := lw4.bk
  have hcc : lget nm (lput nm cc L) = some cc := by rw [lget_put, if_pos rfl]
  have bk2 : BookAt K (mset N4 a (.dic .un (llT (lput nm cc L)))) b l m g L := bk.keep fun x hx => by
    rcases hx with rfl | rfl | rfl | rfl
    · exact mset_ne nb.symm
    · exact mset_ne nl.symm
    · exact mset_ne nm'.symm
    · exact mset_ne ng.symm
  have low := ok'.low nm cc hcc
  refine ⟨_, _, bk2.book, rfl, rfl, .un, _, _, mset_same, rfl, lcT cc, by rw [kget_ll, hcc]; rfl, rfl, cl_of ⟨cc, rfl, by omega, ok'.ok nm cc hcc, by omega, rfl, cl_of ⟨lput nm cc L, b, l, m, g, L, nm, cc, r', rfl, wd nm hin, bk2, rfl, ok', fun N5 l' m' bk5 hl' hm' keep => ?_⟩⟩⟩
  have pne := bk.ne_lst p4.nod
  refine fin N5 (lput nm cc L) ⟨⟨l', m', g, bk5, nb, ne_free mset_same hl', ne_free mset_same hm', ng⟩, keep a _ nb ng mset_same, ⟨r', ok'⟩, fun j hj => ?_⟩ ?_
  · rcases lput_keys hj with e | e
    · rw [e]; exact hin
    · exact lw4.sub j e
  · have pa := lw4.ne_p p4.nod
    obtain ⟨x, y, z, h, rest⟩ := p4
    exact ⟨x, y, z, keep p _ (pne b (.inl rfl)).symm (pne g (.inr (.inr (.inr rfl)))).symm ((mset_ne pa.symm).trans h), rest⟩
/-- who is told as it -/
def usesT (L : Ln) (nm : Str) : T → Bool
  | .str k => match lget k L with
    | some c => decide (nm ∈ c.names)
    | none => false
  | _ => false
def usersN (L : Ln) (nm : Str) : List Str := (L.map (·.1)).filter fun k => usesT L nm (.str k)
theorem users_T (L : Ln) (nm : Str) : ((keysT (llT L)).filter (usesT L nm)).map (fun t => t) = strsT1 (usersN L nm) := by
  rw [List.map_id']
  have e : keysT (llT L) = (L.map (·.1)).map T.str := by
    unfold keysT llT
    rw [List.map_map, List.map_map]
    rfl
  rw [e, List.filter_map]
  rfl
theorem users_none {L : Ln} {nm : Str} (h : (usersN L nm).isEmpty = true) : ∀ k c, lget k L = some c → nm ∉ c.names := fun k c hk hn => by
  have m : k ∈ usersN L nm := List.mem_filter.mpr ⟨lget_key hk, by
    show (match lget k L with | some c => decide (nm ∈ c.names) | none => false) = true
    rw [hk]
    exact decide_eq_true hn⟩
  rw [List.isEmpty_iff.mp h] at m
  cases m
def dropW (K : PySem.W.Frag) : WS :=
  wSeq (wDrop (wPop (wVar 3) (wVar 7))) (wDrop (wMethx (fun C => C = He.ga K "Book") "take_out" 2 (F_Book_take_out K) (wVar 2) (wCons (wVar 7) wNil)))
theorem law_drop {K : PySem.W.Frag} {D : EndsT} {M : Mh} {b a p a0 : Addr} {L : Ln} {ws : List Str} {nm : Str} {cc : LC} {o4 o6 o8 o9 o10 : Option T} (lw : LwAt K M b a L ws) (hp : PotAt M p) (hcc : lget nm L = some cc) (un : ∀ k c, lget k L = some c → nm ∉ c.names)
    (fin : ∀ M' L', LwAt K M' b a L' ws → PotAt M' p → D.nx [some (.adr a0), some (.lst (strsT1 ws)), some (.adr b), some (.adr a), o4, some (.adr p), o6, some (.str nm), o8, o9, o10] M') :
    dropW K D [some (.adr a0), some (.lst (strsT1 ws)), some (.adr b), some (.adr a), o4, some (.adr p), o6, some (.str nm), o8, o9, o10] M := by
  obtain ⟨r, ok⟩ := lw.ok
  refine ⟨⟨_, lw.ln, _, _, rfl⟩, _, _, lw.ln, (kget_ll nm L).trans (by rw [hcc]; rfl), ?_⟩
  rw [← ll_drop]
  obtain ⟨l, m, g, bk, nb, nl, nm', ng⟩ := lw.bk
  have bk2 : BookAt K (mset M a (.dic .un (llT (ldrop nm L)))) b l m g L := bk.keep fun x hx => by
    rcases hx with rfl | rfl | rfl | rfl
    · exact mset_ne nb.symm
    · exact mset_ne nl.symm
    · exact mset_ne nm'.symm
    · exact mset_ne ng.symm
  refine ⟨_, _, bk2.book, rfl, rfl, rfl, cl_of ⟨b, l, m, g, L, nm, cc, rfl, bk2, hcc, ok.few, ok.low, un, fun N5 bk5 keep => ?_⟩⟩
  have pne := bk.ne_lst hp.nod
  refine fin N5 (ldrop nm L) ⟨⟨l, m, g, bk5, nb, nl, nm', ng⟩, keep a _ nl nm' ng mset_same, ⟨r, drop_ok ok un⟩, fun j hj => lw.sub j (ldrop_keys hj)⟩ ?_
  have pa := lw.ne_p hp.nod
  obtain ⟨x, y, z, h, rest⟩ := hp
  exact ⟨x, y, z, keep p _ (pne l (.inr (.inl rfl))).symm (pne m (.inr (.inr (.inl rfl)))).symm (pne g (.inr (.inr (.inr rfl)))).symm ((mset_ne pa.symm).trans h), rest⟩
def spLaw (K : PySem.W.Frag) : Sp := fun vs H Q _ => ∃ (a : Addr) (ns : List Int), vs = [.ref a] ∧ Scr K H a (ns.map V.int) ∧ ∀ H', Q (.bl true) H'
section
variable {P : Program} {w : World} {K : PySem.W.Frag} {mg : Str → Option Value} {base : Heap}
theorem law_ok (c : Fx K mg) : ∃ fd, FnQ P w K mg base 63 (He.fAd K ("law", none)) fd ["_law_script"] (spLaw K) ∧ Binds K fd ["_law_script"] [] := by
  obtain ⟨fd, FD⟩ := c.fn (d := d_law) M_law
  refine ⟨fd, fnQ FD S_law (fun vs H Q E ⟨a, ns, e, _⟩ => by rw [e]; rfl) fun cdv A outer s H vs Q E hr hq ⟨a0, ns, e, scr, q⟩ => ?_, FD.bindsN fun _ _ _ _ _ _ us hl => match us, hl with | [_], _ => rfl⟩
  subst e
  have k_L_pot := kps_L_pot (P := P) (w := w) (base := base) (a := a0) (ns := ns) c
  have k_L_pool := kp_L_pool (P := P) (w := w) (base := base) c
  have k_Book_init := kp_Book_init (P := P) (w := w) (base := base) c
  have k_L_take := kp_L_take (P := P) (w := w) (base := base) c
  have k_L_names_in := L_names_all (P := P) (w := w) (base := base) c 40
  have k_L_new_card := kp_L_new_cardx (P := P) (w := w) (base := base) c
  have k_L_made := L_made_all (P := P) (w := w) (base := base) c 40
  have k_L_spots := kp_L_spotsx (P := P) (w := w) (base := base) c
  have k_L_line_right := kpq_L_line_right (P := P) (w := w) (base := base) c
  have m_put : ∀ C, C = He.ga K "Book" → MethK P w K mg base C "put" 62 3 (fun ts M Q => ∃ L' : Ln, (F_Book_put K L') ts M Q) := fun C e => by
    subst e
    exact methK c.c_Book c.m_Book_put (kp_Book_putx c)
  have m_take_out := mk_take_out (P := P) (w := w) (base := base) c
  have body : ∃ w0, QSs (cxOf CX0 P w K mg base N_law d_law.qual d_law.scope (He.fAd K d_law.at_) cdv A outer s H E).nox d_law.body w0 ∧ w0 (endsF fun r _ => r = T.bl true) (startT N_law [.adr a0]) (fun _ => none) := by
    refine ⟨_, (
      (qss_cons (qs_set 1 S_law.nd (qe_fn (k_L_pool) (hr.mono (by omega)) c.g_law_pool (qa_cons (qe_fnS (k_L_pot) scr (hr.mono (by omega)) c.g_law_pot (qa_cons (qv 0) (qa_cons qe_int qa_nil))) (qa_cons qe_int qa_nil))))
      (qss_cons (qs_set 2 S_law.nd (qe_new0 c.k_Book (k_Book_init) (hr.mono (by omega)) c.g_Book))
      (qss_cons (qs_set 3 S_law.nd qe_dicO)
      (qss_cons (qs_for PassesOwn.never rfl (qi_range2 (qa_cons qe_int (qa_cons (qe_callB (ct_max2 rfl) c.b_max (qa_cons qe_int (qa_cons (qe_callB (ct_min2 rfl) c.b_min (qa_cons (qe_callB (ct_lenScr scr) c.b_len (qa_cons (qv 0) qa_nil)) (qa_cons qe_int qa_nil))) qa_nil))) qa_nil)) (by rfl) c.b_range) (qg_name 4 S_law.nd)
      (qss_cons (qs_set 5 S_law.nd (qe_fnS (k_L_pot) scr (hr.mono (by omega)) c.g_law_pot (qa_cons (qv 0) (qa_cons (qv 4) qa_nil))))
      (qss_cons (qs_set 6 S_law.nd (qe_fn (k_L_take) (hr.mono (by omega)) c.g_law_take (qa_cons (qv 5) (qa_cons qe_int qa_nil))))
      (qss_cons (qs_set 7 S_law.nd (qe_ix it_seqx (qv 1) (qe_fn (k_L_take) (hr.mono (by omega)) c.g_law_take (qa_cons (qv 5) (qa_cons (qe_callB ct_len c.b_len (qa_cons (qv 1) qa_nil)) qa_nil)))))
      (qss_cons (qs_lock (qs_setLc1 8 9 rfl S_law.nd (qi_keysx (qv 3)) (blkOk_by (by rfl)) (fun s H C cl fp => qts_one (qt_cmp ot_in (qv 7) (qe_fn (k_L_names_in) (hr.mono (by omega)) c.g_law_names_in (qa_cons (qe_dgetx (Tr.Room.u1 hr) (qv 3) (qv 8)) qa_nil)))) (fun s H C cl fp => (qv 8))))
      (qss_cons (qs_if (QW.qt (qw_and (qt_cmp ot_eq (qv 6) qe_int) (qw_and (qt_dinx (Tr.Room.u1 hr) (qv 7) (qv 3)) (qw_and1 (qt_cmp (ot_eqNil hr.units) (qv 9) (qe_lst qa_nil))))))
      (qss_cons (qs_expr (qe_dpop (qv 3) (qv 7)))
      (qss_one (qs_expr (qe_methx (fun C e => (m_take_out C e).ok (hr.mono (by omega))) (qv 2) (qa_cons (qv 7) qa_nil)))))
      (qss_cons (qs_dputx (Tr.Room.u1 hr) (qv 3) (qv 7) (qe_fn (k_L_new_card) (hr.mono (by omega)) c.g_law_new_card (qa_cons (qv 5) (qa_cons (qv 3) (qa_cons (qv 7) (qa_cons (qv 1) (qa_cons qe_int qa_nil)))))))
      (qss_one (qs_expr (qe_methx (fun C e => (m_put C e).ok (hr.mono (by omega))) (qv 2) (qa_cons (qv 7) (qa_cons (qe_fn (k_L_made) (hr.mono (by omega)) c.g_law_made (qa_cons (qe_dgetx (Tr.Room.u1 hr) (qv 3) (qv 7)) qa_nil)) qa_nil)))))))
      (qss_cons (qs_set 10 S_law.nd (qe_fn (k_L_spots) (hr.mono (by omega)) c.g_law_spots (qa_cons (qv 5) (qa_cons (qv 3) qa_nil))))
      (qss_one (qs_if (qt_not (qt_val (qe_callB (ct_all rfl) c.b_all (qa_cons (qe_lock (qe_lc1 8 rfl S_law.nd (qi_keysx (qv 3)) (blkOk_by (by rfl)) (fun s H C cl fp => qts_nil) (fun s H C cl fp => (qe_fnQ (k_L_line_right) (hr.mono (by omega)) hq c.g_law_line_right (qa_cons (qv 2) (qa_cons (qv 3) (qa_cons (qv 8) (qa_cons (qv 10) qa_nil)))))))) qa_nil))))
      (qss_one (qs_ret qe_bl))
      qss_nil)))))))))
      (qss_one (qs_ret qe_bl))))))), ?_⟩
    refine ⟨rfl, cl_of ⟨0, rfl, by decide, by decide, fun p0 M1 h0 hp0 o0 => ⟨rfl, cl_of ⟨p0, rfl, hp0, fun ws M2 ne nd l5 wd p2 o2 => ?_⟩⟩⟩⟩
    refine ⟨rfl, fun b hb => cl_of ⟨b, rfl, mset_same, fun M3 l m g bk hl hm hg keep => ⟨rfl, ?_⟩⟩⟩
    intro a ha
    have jb : ∀ n : Int, (2 : Int) ≤ (if (if (6 : Int) < n then 6 else n) > 2 then (if (6 : Int) < n then 6 else n) else 2) ∧ (if (if (6 : Int) < n then 6 else n) > 2 then (if (6 : Int) < n then 6 else n) else 2) ≤ 6 := fun n => by
      split <;> split <;> omega
    have L0 : LwAt K (mset M3 a (.dic .un [])) b a [] ws := by
      obtain ⟨kvs, e1, _⟩ := bk.means
      obtain ⟨ch, e2, _⟩ := bk.chs
      have nb := ne_free bk.book ha
      have nl := ne_free bk.lines ha
      have nm := ne_free e1 ha
      have ng := ne_free e2 ha
      refine ⟨⟨l, m, g, bk.keep fun x hx => ?_, nb.symm, nl.symm, nm.symm, ng.symm⟩, mset_same, ⟨fun _ => 0, ?_⟩, fun j h => by simp at h⟩
      · rcases hx with rfl | rfl | rfl | rfl
        · exact mset_ne nb
        · exact mset_ne nl
        · exact mset_ne nm
        · exact mset_ne ng
      · exact ⟨List.nodup_nil, Nat.zero_le _, fun k c h => (by cases h), fun k c h => (by cases h), fun k c h => (by cases h), fun k c h => (by cases h), fun k c h => (by cases h)⟩
    refine ⟨rfl, trivial, trivial, ⟨by decide, by decide, Int.le_trans (by decide) (jb _).1, Int.lt_of_le_of_lt (jb _).2 (by decide)⟩, ?_⟩
    refine ⟨fun k s' M' => ∃ (L : Ln) (o4 o5 o6 o7 o8 o9 o10 : Option T), LwAt K M' b a L ws ∧ s' = [some (.adr a0), some (.lst (strsT1 ws)), some (.adr b), some (.adr a), o4, o5, o6, o7, o8, o9, o10],
      ⟨[], none, none, none, none, none, none, none, L0, rfl⟩, fun _ _ _ _ => kT, ?_, ?_⟩
    · rintro k s' N0 t et ⟨L, o4, o5, o6, o7, o8, o9, o10, lw, rfl⟩
      obtain ⟨hk, _⟩ := List.getElem?_eq_some_iff.mp et
      rw [rngT_len] at hk
      have et : (rngT 1 _)[k]? = some t := et
      rw [rngT_get hk] at et
      cases et
      have k6 : (1 + (k : Int)) ≤ 100 := by
        have := (jb ((ns.map V.int).length : Nat)).2
        omega
      refine ⟨rfl, cl_of ⟨1 + (k : Int), rfl, by omega, k6, fun p N1 hp hpp op => ?_⟩⟩
      have lw1 := lw.oth op (NoD.of_none hp)
      refine ⟨rfl, cl_of ⟨p, 5, rfl, hpp, by decide, by decide, fun d N2 d0 d1 q2 u2 => ?_⟩⟩
      have lw2 := lw1.oth u2 hpp.nod
      have hpos : 0 < ws.length := List.length_pos_iff.mpr ne
      refine ⟨rfl, cl_of ⟨p, _, rfl, q2, by rw [List.length_map]; omega, by rw [List.length_map]; omega, fun j N3 j0 j1 q3 u3 => ?_⟩⟩
      rw [List.length_map] at j1
      have hj : j.toNat < ws.length := by omega
      have get : tget (strsT1 ws) j = some (.str ws[j.toNat]) := by
        unfold tget
        rw [if_pos j0, List.getElem?_map, List.getElem?_eq_getElem hj]
        rfl
      have hin : ws[j.toNat] ∈ ws := List.getElem_mem hj
      have lw3 := lw2.oth u3 q2.nod
      refine ⟨_, _, _, .inl rfl, rfl, get, ?_⟩
      revert hin
      generalize ws[j.toNat] = nm
      intro hin
      obtain ⟨r, ok⟩ := lw3.ok
      have few := ok.few
      refine ⟨a, _, lw3.ln, fun o vs => ⟨a, o, vs, _, rfl, mset_same, ?_⟩⟩
      refine lc_filt (ts := keysT (llT L)) (M1 := mset N3 a (.dic (.lk o vs) (llT L))) (usesT L nm) (fun t => t) mset_same (by rw [keysT_lenL]; omega) (fun t ht => ?_) ?_
      · obtain ⟨i, e⟩ := List.mem_iff_getElem?.mp ht
        obtain ⟨k1, c1, hm, rfl, hi⟩ := keys_atL e
        have hg := lget_at ok.nd hm
        have low := ok.low k1 c1 hg
        refine ⟨_, rfl, fun Q' q' => ⟨.lk o vs, _, _, mset_same, rfl, lcT c1, by rw [kget_ll, hg]; rfl, rfl, cl_of ⟨c1, rfl, by omega, by omega, flatS _, ?_⟩⟩, fun _ Q' q' => q'⟩
        show Q' (inS nm (strsT1 c1.names)) _
        rw [inS_map]
        have e : usesT L nm (.str k1) = decide (nm ∈ c1.names) := by
          show (match lget k1 L with | some c => decide (nm ∈ c.names) | none => false) = _
          rw [hg]
        rw [e] at q'
        exact q'
      rw [users_T]
      refine ⟨mset_same, ?_⟩
      rw [mset_set, mset_id lw3.ln]
      by_cases hd : d = 0
      · refine yesd hd ⟨.un, _, _, lw3.ln, rfl, ?_⟩
        rw [kget_ll]
        cases e : lget nm L with
        | none =>
          exact no rfl (no rfl (law_put lw3 q3 wd l5 hin fun N5 L5 lw5 q5 => law_tail lw5 q5 fun M' o lw' => by exact ⟨_, _, _, _, _, _, _, _, lw', rfl⟩))
        | some cc =>
          refine yes rfl ⟨Nat.zero_le _, usersN L nm, rfl, fun n hn => ?_, ?_⟩
          · obtain ⟨cn, hcn⟩ := lget_some (List.mem_filter.mp hn).1
            rw [PyData.canLay0]
            exact word_ok (ok.wd n cn hcn)
          · cases hu : (usersN L nm).isEmpty with
            | true => exact yes rfl (law_drop lw3 q3 e (users_none hu) fun N5 L5 lw5 q5 => law_tail lw5 q5 fun M' o lw' => by exact ⟨_, _, _, _, _, _, _, _, lw', rfl⟩)
            | false => exact no rfl (law_put lw3 q3 wd l5 hin fun N5 L5 lw5 q5 => law_tail lw5 q5 fun M' o lw' => by exact ⟨_, _, _, _, _, _, _, _, lw', rfl⟩)
      · exact nod hd (no rfl (law_put lw3 q3 wd l5 hin fun N5 L5 lw5 q5 => law_tail lw5 q5 fun M' o lw' => by exact ⟨_, _, _, _, _, _, _, _, lw', rfl⟩))
    · rintro s' M' ⟨L, o4, o5, o6, o7, o8, o9, o10, lw, rfl⟩
      exact ⟨M', Msub.refl M', rfl⟩
  obtain ⟨w0, h1, h2⟩ := body
  refine ⟨_, h1.ps.nox, H, fun _ => none, startT N_law [.adr a0], endsF (fun r _ => r = T.bl true), ⟨Same.refl H, fun l o e => (nomatch e)⟩, ?_, h2, ?_, ?_, fun _ _ _ _ _ q => q.elim, fun _ _ _ _ _ q => q.elim⟩
  · exact RepS.start (ts := [.adr a0]) (vs := [.ref a0]) _ (Reps.cons (by unfold Rep; rfl) Reps.nil)
  · rintro s' M' G' H' σ' ⟨M2, sub, z⟩ _ _
    cases z
  · rintro t M' G' H' v ⟨M2, sub, rfl⟩ _ rt
    unfold Rep at rt
    rw [rt]
    exact q H'
end
end Tr


set_option Elab.async false
set_option linter.all false
set_option maxRecDepth 100000
set_option maxHeartbeats 4000000
namespace Tr
open PySem PySem.Spec L2 PyProof PyProof.Rows
/-! ### the join -/
/-- the law's call, where nothing is being shown: from the promise of its def -/
theorem law_callQ {P : Program} {w : World} {K : PySem.W.Frag} {mg mb : Str → Option Value} {k : Nat} {fa a : Addr} {x : Str} {s₁ : Shared} {vs : List Value} {ns : List Int}
    (KX : K.In s₁.heap) (hns : s₁.heap.Ns mainGlobals mg) (hb : s₁.heap.Ns builtinsNs mb) (hbb : ∀ x : Str, x ≠ "__name__" → mb x = bootBuiltins x) (hlim : s₁.heap.NoLimit) (hg : s₁.gens = #[])
    (ha : s₁.heap.get? a = some { cls := .type "list", data := .seq vs.toArray }) (hi : IntsAre vs ns) (hl : ns.length ≤ sizeLine) (hr : Room k callerA)
    (F : ∀ base : Heap, K.In base → base.Ns mainGlobals mg → ∃ fd, FnQ P w K mg base k fa fd [x] (spLaw K) ∧ L2.Binds K fd [x] []) :
    codeAny (model P w) callerA (.call (.ref fa) ⟨[.ref a], []⟩) (fun r s' => r = .ok (.ret (.bool true)) ∧ OldK s₁.heap s'.heap ∧ s'.os = s₁.os ∧ AllBare s'.gens) s₁ := by
  have rv := vals_ints hi
  have len := hi.length
  have core : ∀ H : Hp, Scr K H a (ns.map V.int) → HOk P w H s₁.heap → (∀ b u, H b = some u → b = a ∧ K.lookup a = none ∧ ∃ xs, u = .frz { cls := .type "list", data := .seq vs.toArray } (.lst xs)) →
      codeAny (model P w) callerA (.call (.ref fa) ⟨[.ref a], []⟩) (fun r s' => r = .ok (.ret (.bool true)) ∧ OldK s₁.heap s'.heap ∧ s'.os = s₁.os ∧ AllBare s'.gens) s₁ := by
    intro H scr hok tr
    have at_ : ∀ {b : Addr} {o : Obj}, s₁.heap.get? b = some o → (b = a → K.lookup a = none → False) → (hidT s₁.heap H).get? b = some o := fun {b o} e z => by
      refine hidT_get e ?_
      cases q : H b with
      | none => rfl
      | some u => exact (z (tr b u q).1 (tr b u q).2.1).elim
    have nsK : ∀ {b : Addr} {m : Str → Option Value}, s₁.heap.Ns b m → (hidT s₁.heap H).Ns b m := fun {b m} n => by
      obtain ⟨o, es, ep, e, d, r⟩ := n
      refine ⟨o, es, ep, at_ e (fun z _ => ?_), d, r⟩
      rw [z, ha] at e
      cases e
      exact nomatch (show Data.seq vs.toArray _ = Data.dict es ep from d)
    have inK : K.In (hidT s₁.heap H) := fun b o e => at_ (KX b o e) fun z n => by
      rw [z, n] at e
      cases e
    have md : Mod K mg (hidT s₁.heap H) := by
      obtain ⟨mc, h1, h2⟩ := hlim
      exact ⟨inK, nsK hns, ⟨mb, nsK hb, hbb⟩, ⟨mc, nsK h1, h2⟩⟩
    have e0 : Env0 P w K mg (hidT s₁.heap H) callerA [] s₁ H := by
      refine ⟨rfl, md, fun b o e => of_hidT e, Nat.le_of_eq (hidT_size _ _), trivial, fun b z => ?_, hok, .of_eq hg⟩
      exact (List.not_mem_nil (show b ∈ ([] : List Addr) from z)).elim
    obtain ⟨fd, fq, bd⟩ := F _ inK (nsK hns)
    have bt := bd s₁ [.ref a] KX rfl
    refine codeAny_mono (fq.goes (outer := []) (H := H) (vs := [.ref a]) (Q := fun v _ => v = .bl true) (E := E0) hr rfl e0 bt (.cons rfl .nil) ⟨a, ns, rfl, scr, fun _ => rfl⟩) fun r s' h => ?_
    cases r with
    | error e => exact False.elim h
    | ok fl =>
      cases fl with
      | next => exact False.elim h
      | brk => exact False.elim h
      | cont => exact False.elim h
      | ret u =>
        obtain ⟨v, H', os, bare, un, hok2, rel, q⟩ := h
        have q : v = .bl true := q
        rw [q] at rel
        cases (show u = Value.bool true from rel)
        refine ⟨rfl, OldK.of_keep fun b o e => ?_, os, bare⟩
        cases z : H b with
        | none =>
          refine un.keep b o e z (fun y => ?_) (fun y => ?_)
          · exact (List.not_mem_nil (show b ∈ ([] : List Addr) from y)).elim
          · exact (List.not_mem_nil (show b ∈ ([] : List Addr) from y)).elim
        | some t =>
          obtain ⟨_, _, xs, rfl⟩ := tr b t z
          obtain ⟨g1, _⟩ := hok b _ z
          obtain ⟨g2, _⟩ := hok2 b _ (un.frzs b _ _ z)
          rw [e] at g1
          cases g1
          exact g2
  cases hk : K.lookup a with
  | some o =>
    have e := KX a o hk
    rw [ha] at e
    cases e
    refine core (fun _ => none) (.inr ⟨_, vs.toArray, _, hk, rfl, rfl, rfl, ?_, ?_⟩) (fun b u z => nomatch (show (none : Option HO) = some u from z)) (fun b u z => nomatch (show (none : Option HO) = some u from z))
    · rw [List.size_toArray, len]
      exact hl
    · exact rv
  | none =>
    refine core (fun b => if b = a then some (.frz { cls := .type "list", data := .seq vs.toArray } (.lst (ns.map V.int))) else none) (.inl ⟨_, if_pos rfl⟩) (fun b u z => ?_) (fun b u z => ?_)
    · by_cases hb : b = a
      · cases (if_pos hb).symm.trans z
        rw [hb]
        exact ⟨ha, by rw [List.length_map]; exact hl, vs, _, rv, ha⟩
      · cases (if_neg hb).symm.trans z
    · by_cases hb : b = a
      · cases (if_pos hb).symm.trans z
        exact ⟨hb, hk, _, rfl⟩
      · cases (if_neg hb).symm.trans z
end Tr

set_option Elab.async false
set_option linter.all false
set_option maxRecDepth 100000
set_option maxHeartbeats 0
open PySem PySem.W PySem.Calls PyProof.Rows
theorem PySem.Challenge.cw_shortgoings_k83_whole_lines_meant_holds : PySem.Challenge.rw_shortgoings_k83_whole_lines_meant.Holds := by
  w_on; o_law
  refine HandSHeadRun.head_any (r := Tr.RR) (q := view Tr.RR.prog [124]) (H := Tr.hkK) (ob := Tr.obT) (M := 20000) (loose := Tr.loose) (d := HandSHeadRun.topDef Tr.RR.prog 124) (kwd := []) Tr.obT_eq
    (by kernel_rfl) (fun s => by kernel_rfl) Tr.head_run (by kernel_rfl) (by kernel_rfl) (by kernel_rfl) (by rfl) (by first | assumption | decide +kernel) (by decide +kernel) ⟨rfl, rfl, rfl, rfl, rfl, by decide +kernel⟩ ?hw ?hc
  case hw => w_witness2
  case hc =>
    refine Att.attach_call (l := PySem.Challenge.rw_shortgoings_k83_whole_lines_meant) (n := 63) rfl (by kernel_rfl) fun w s₀ s₁ mg mb fa o pm cd doc a vs ns G Y ho hd hcd hmg0 hobj hints hlen hg => ?_
    obtain ⟨K, KX, c⟩ := Y
    have hmg : mg ("law" : PySem.Str) = some (.ref fa) := by
      have e : (HandSHeadRun.topDef Tr.RR.prog 124).name = ("law" : PySem.Str) := by kernel_rfl
      rw [← e]
      exact hmg0
    have fx : Tr.Fx K mg := ⟨c, _, KX, G.T.g⟩
    have e := hmg.symm.trans fx.g_law
    cases e
    exact Tr.law_callQ KX G.T.g G.T.b G.T.builtins G.T.nolimit hg hobj hints (Nat.le_trans hlen (by decide)) (k := 63) ⟨rfl, by decide, by decide⟩ fun base KB GB => Tr.law_ok fx
