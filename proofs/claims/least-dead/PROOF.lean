import PyProof.Rows.All
import Wide.All
import OpenK.AllK
import Wide.FinOn
import HandS.Codes
import HandS.Conv
import HandS.Deep
import HandS.Defaults
import HandS.Dict
import HandS.DictComp
import HandS.Ends
import HandS.ForMost
import HandS.Head0
import HandS.Head1
import HandS.Head2
import HandS.HeadEnd
import HandS.HeadHook4
import HandS.IsInst
import HandS.Iter
import HandS.NoneIn
import HandS.OwnEq
import HandS.Property
import HandS.RaiseMore
import HandS.SetFor
import HandS.SetKeys
import HandS.Slots
import HandS.SlotsOwn
import HandS.SlotsVar
import HandS.SortInts
import HandS.SortKw
import HandS.SortRule
import HandS.Star
import HandS.Strs
import HandS.Style
import HandS.TupAny
import HandS.TupLen
import HandS.Walk
import HandS.Zip
import KE.DataMinMax
import KE.GoesEnum
import KE.KOpsOwn
import KE.KStateDown
import PyProof.DictMoreH
import PySem.Challenge.RW_wiresindark_k31_whole_least_dead_on_grea
set_option Elab.async false
set_option linter.all false
set_option maxRecDepth 100000
set_option maxHeartbeats 0
namespace K31
open L2 PySem PySem.Spec PyProof.Rows
/-! ### the text by places -/
def top (i : Nat) : Stmt := PySem.Challenge.pw_wiresindark_k31_whole_least_dead_on_grea.main.body.getD i (.Pass ⟨0, 0, 0, 0⟩)
abbrev s_is_integer : Stmt := top 16
def d_is_integer : He.DefD := ⟨("is_integer", none), "is_integer", "is_integer", defArgs s_is_integer, defBody s_is_integer, defScope s_is_integer, [.non], []⟩
abbrev s_is_rising : Stmt := top 17
def d_is_rising : He.DefD := ⟨("is_rising", none), "is_rising", "is_rising", defArgs s_is_rising, defBody s_is_rising, defScope s_is_rising, [], []⟩
abbrev s_is_tuple : Stmt := top 18
def d_is_tuple : He.DefD := ⟨("is_tuple", none), "is_tuple", "is_tuple", defArgs s_is_tuple, defBody s_is_tuple, defScope s_is_tuple, [], []⟩
abbrev s_is_pair : Stmt := top 19
def d_is_pair : He.DefD := ⟨("is_pair", none), "is_pair", "is_pair", defArgs s_is_pair, defBody s_is_pair, defScope s_is_pair, [], []⟩
abbrev s_is_row : Stmt := top 28
def d_is_row : He.DefD := ⟨("is_row", none), "is_row", "is_row", defArgs s_is_row, defBody s_is_row, defScope s_is_row, [], []⟩
abbrev s_are_rows : Stmt := top 29
def d_are_rows : He.DefD := ⟨("are_rows", none), "are_rows", "are_rows", defArgs s_are_rows, defBody s_are_rows, defScope s_are_rows, [], []⟩
abbrev s_left_end : Stmt := top 34
def d_left_end : He.DefD := ⟨("left_end", none), "left_end", "left_end", defArgs s_left_end, defBody s_left_end, defScope s_left_end, [], []⟩
abbrev s_right_end : Stmt := top 35
def d_right_end : He.DefD := ⟨("right_end", none), "right_end", "right_end", defArgs s_right_end, defBody s_right_end, defScope s_right_end, [], []⟩
abbrev s_neighbours : Stmt := top 36
def d_neighbours : He.DefD := ⟨("neighbours", none), "neighbours", "neighbours", defArgs s_neighbours, defBody s_neighbours, defScope s_neighbours, [], []⟩
abbrev s_grow : Stmt := top 37
def d_grow : He.DefD := ⟨("grow", none), "grow", "grow", defArgs s_grow, defBody s_grow, defScope s_grow, [], []⟩
abbrev s_matched : Stmt := top 38
def d_matched : He.DefD := ⟨("matched", none), "matched", "matched", defArgs s_matched, defBody s_matched, defScope s_matched, [], []⟩
abbrev s_is_barred : Stmt := top 39
def d_is_barred : He.DefD := ⟨("is_barred", none), "is_barred", "is_barred", defArgs s_is_barred, defBody s_is_barred, defScope s_is_barred, [], []⟩
abbrev s_fewest_of : Stmt := top 40
def d_fewest_of : He.DefD := ⟨("fewest_of", none), "fewest_of", "fewest_of", defArgs s_fewest_of, defBody s_fewest_of, defScope s_fewest_of, [], []⟩
abbrev s_are_dots : Stmt := top 44
def d_are_dots : He.DefD := ⟨("are_dots", none), "are_dots", "are_dots", defArgs s_are_dots, defBody s_are_dots, defScope s_are_dots, [], []⟩
abbrev s_are_pictures : Stmt := top 57
def d_are_pictures : He.DefD := ⟨("are_pictures", none), "are_pictures", "are_pictures", defArgs s_are_pictures, defBody s_are_pictures, defScope s_are_pictures, [], []⟩
abbrev s_is_look : Stmt := top 63
def d_is_look : He.DefD := ⟨("is_look", none), "is_look", "is_look", defArgs s_is_look, defBody s_is_look, defScope s_is_look, [], []⟩
abbrev s_check_seen : Stmt := top 64
def d_check_seen : He.DefD := ⟨("check_seen", none), "check_seen", "check_seen", defArgs s_check_seen, defBody s_check_seen, defScope s_check_seen, [], []⟩
abbrev s_check_films : Stmt := top 65
def d_check_films : He.DefD := ⟨("check_films", none), "check_films", "check_films", defArgs s_check_films, defBody s_check_films, defScope s_check_films, [], []⟩
abbrev s_check_k : Stmt := top 66
def d_check_k : He.DefD := ⟨("check_k", none), "check_k", "check_k", defArgs s_check_k, defBody s_check_k, defScope s_check_k, [], []⟩
abbrev s_truths_of : Stmt := top 67
def d_truths_of : He.DefD := ⟨("truths_of", none), "truths_of", "truths_of", defArgs s_truths_of, defBody s_truths_of, defScope s_truths_of, [], []⟩
abbrev s_wires_at : Stmt := top 68
def d_wires_at : He.DefD := ⟨("wires_at", none), "wires_at", "wires_at", defArgs s_wires_at, defBody s_wires_at, defScope s_wires_at, [], []⟩
abbrev s_strays : Stmt := top 69
def d_strays : He.DefD := ⟨("strays", none), "strays", "strays", defArgs s_strays, defBody s_strays, defScope s_strays, [], []⟩
abbrev s_missing : Stmt := top 70
def d_missing : He.DefD := ⟨("missing", none), "missing", "missing", defArgs s_missing, defBody s_missing, defScope s_missing, [], []⟩
abbrev s_edges_of : Stmt := top 72
def d_edges_of : He.DefD := ⟨("edges_of", none), "edges_of", "edges_of", defArgs s_edges_of, defBody s_edges_of, defScope s_edges_of, [], []⟩
abbrev s_accounts : Stmt := top 76
def d_accounts : He.DefD := ⟨("accounts", none), "accounts", "accounts", defArgs s_accounts, defBody s_accounts, defScope s_accounts, [], []⟩
abbrev s_told : Stmt := top 77
def d_told : He.DefD := ⟨("told", none), "told", "told", defArgs s_told, defBody s_told, defScope s_told, [], [("dying", .bl false)]⟩
abbrev s_least_dead : Stmt := top 78
def d_least_dead : He.DefD := ⟨("least_dead", none), "least_dead", "least_dead", defArgs s_least_dead, defBody s_least_dead, defScope s_least_dead, [], [("dying", .bl false)]⟩
abbrev s_law_pot : Stmt := top 80
def d_law_pot : He.DefD := ⟨("_law_pot", none), "_law_pot", "_law_pot", defArgs s_law_pot, defBody s_law_pot, defScope s_law_pot, [], []⟩
abbrev s_law_take : Stmt := top 81
def d_law_take : He.DefD := ⟨("_law_take", none), "_law_take", "_law_take", defArgs s_law_take, defBody s_law_take, defScope s_law_take, [], []⟩
abbrev s_law_of : Stmt := top 82
def d_law_of : He.DefD := ⟨("_law_of", none), "_law_of", "_law_of", defArgs s_law_of, defBody s_law_of, defScope s_law_of, [], []⟩
abbrev s_law_some : Stmt := top 83
def d_law_some : He.DefD := ⟨("_law_some", none), "_law_some", "_law_some", defArgs s_law_some, defBody s_law_some, defScope s_law_some, [], []⟩
abbrev s_law_part : Stmt := top 84
def d_law_part : He.DefD := ⟨("_law_part", none), "_law_part", "_law_part", defArgs s_law_part, defBody s_law_part, defScope s_law_part, [], []⟩
abbrev s_law_rows : Stmt := top 85
def d_law_rows : He.DefD := ⟨("_law_rows", none), "_law_rows", "_law_rows", defArgs s_law_rows, defBody s_law_rows, defScope s_law_rows, [], []⟩
abbrev s_law_dots : Stmt := top 86
def d_law_dots : He.DefD := ⟨("_law_dots", none), "_law_dots", "_law_dots", defArgs s_law_dots, defBody s_law_dots, defScope s_law_dots, [], []⟩
abbrev s_law_lit : Stmt := top 87
def d_law_lit : He.DefD := ⟨("_law_lit", none), "_law_lit", "_law_lit", defArgs s_law_lit, defBody s_law_lit, defScope s_law_lit, [], []⟩
abbrev s_law_film : Stmt := top 88
def d_law_film : He.DefD := ⟨("_law_film", none), "_law_film", "_law_film", defArgs s_law_film, defBody s_law_film, defScope s_law_film, [], []⟩
abbrev s_law_near_film : Stmt := top 89
def d_law_near_film : He.DefD := ⟨("_law_near_film", none), "_law_near_film", "_law_near_film", defArgs s_law_near_film, defBody s_law_near_film, defScope s_law_near_film, [], []⟩
abbrev s_law_dead : Stmt := top 90
def d_law_dead : He.DefD := ⟨("_law_dead", none), "_law_dead", "_law_dead", defArgs s_law_dead, defBody s_law_dead, defScope s_law_dead, [], []⟩
abbrev s_law_is_met : Stmt := top 91
def d_law_is_met : He.DefD := ⟨("_law_is_met", none), "_law_is_met", "_law_is_met", defArgs s_law_is_met, defBody s_law_is_met, defScope s_law_is_met, [], []⟩
abbrev s_law_left : Stmt := top 92
def d_law_left : He.DefD := ⟨("_law_left", none), "_law_left", "_law_left", defArgs s_law_left, defBody s_law_left, defScope s_law_left, [], []⟩
abbrev s_law_shown : Stmt := top 93
def d_law_shown : He.DefD := ⟨("_law_shown", none), "_law_shown", "_law_shown", defArgs s_law_shown, defBody s_law_shown, defScope s_law_shown, [], []⟩
abbrev s_law_made_film : Stmt := top 94
def d_law_made_film : He.DefD := ⟨("_law_made_film", none), "_law_made_film", "_law_made_film", defArgs s_law_made_film, defBody s_law_made_film, defScope s_law_made_film, [], []⟩
abbrev s_law_made_seen : Stmt := top 95
def d_law_made_seen : He.DefD := ⟨("_law_made_seen", none), "_law_made_seen", "_law_made_seen", defArgs s_law_made_seen, defBody s_law_made_seen, defScope s_law_made_seen, [], []⟩
abbrev s_law_far_looks : Stmt := top 96
def d_law_far_looks : He.DefD := ⟨("_law_far_looks", none), "_law_far_looks", "_law_far_looks", defArgs s_law_far_looks, defBody s_law_far_looks, defScope s_law_far_looks, [], []⟩
abbrev s_law_wires_of : Stmt := top 97
def d_law_wires_of : He.DefD := ⟨("_law_wires_of", none), "_law_wires_of", "_law_wires_of", defArgs s_law_wires_of, defBody s_law_wires_of, defScope s_law_wires_of, [], []⟩
abbrev s_law_dead_of : Stmt := top 98
def d_law_dead_of : He.DefD := ⟨("_law_dead_of", none), "_law_dead_of", "_law_dead_of", defArgs s_law_dead_of, defBody s_law_dead_of, defScope s_law_dead_of, [], []⟩
abbrev s_law_seen_while_dying : Stmt := top 99
def d_law_seen_while_dying : He.DefD := ⟨("_law_seen_while_dying", none), "_law_seen_while_dying", "_law_seen_while_dying", defArgs s_law_seen_while_dying, defBody s_law_seen_while_dying, defScope s_law_seen_while_dying, [], []⟩
abbrev s_law_bent_seen : Stmt := top 100
def d_law_bent_seen : He.DefD := ⟨("_law_bent_seen", none), "_law_bent_seen", "_law_bent_seen", defArgs s_law_bent_seen, defBody s_law_bent_seen, defScope s_law_bent_seen, [], []⟩
abbrev s_law_drawn_seen : Stmt := top 101
def d_law_drawn_seen : He.DefD := ⟨("_law_drawn_seen", none), "_law_drawn_seen", "_law_drawn_seen", defArgs s_law_drawn_seen, defBody s_law_drawn_seen, defScope s_law_drawn_seen, [], []⟩
abbrev s_law_lit_at : Stmt := top 102
def d_law_lit_at : He.DefD := ⟨("_law_lit_at", none), "_law_lit_at", "_law_lit_at", defArgs s_law_lit_at, defBody s_law_lit_at, defScope s_law_lit_at, [], []⟩
abbrev s_law_last_lit : Stmt := top 103
def d_law_last_lit : He.DefD := ⟨("_law_last_lit", none), "_law_last_lit", "_law_last_lit", defArgs s_law_last_lit, defBody s_law_last_lit, defScope s_law_last_lit, [], []⟩
abbrev s_law_may_be_dead : Stmt := top 104
def d_law_may_be_dead : He.DefD := ⟨("_law_may_be_dead", none), "_law_may_be_dead", "_law_may_be_dead", defArgs s_law_may_be_dead, defBody s_law_may_be_dead, defScope s_law_may_be_dead, [], []⟩
abbrev s_law_first_stray : Stmt := top 105
def d_law_first_stray : He.DefD := ⟨("_law_first_stray", none), "_law_first_stray", "_law_first_stray", defArgs s_law_first_stray, defBody s_law_first_stray, defScope s_law_first_stray, [], []⟩
abbrev s_law_missing : Stmt := top 106
def d_law_missing : He.DefD := ⟨("_law_missing", none), "_law_missing", "_law_missing", defArgs s_law_missing, defBody s_law_missing, defScope s_law_missing, [], []⟩
abbrev s_law_demands : Stmt := top 107
def d_law_demands : He.DefD := ⟨("_law_demands", none), "_law_demands", "_law_demands", defArgs s_law_demands, defBody s_law_demands, defScope s_law_demands, [], []⟩
abbrev s_law_grown : Stmt := top 108
def d_law_grown : He.DefD := ⟨("_law_grown", none), "_law_grown", "_law_grown", defArgs s_law_grown, defBody s_law_grown, defScope s_law_grown, [], []⟩
abbrev s_law_apart_edges : Stmt := top 109
def d_law_apart_edges : He.DefD := ⟨("_law_apart_edges", none), "_law_apart_edges", "_law_apart_edges", defArgs s_law_apart_edges, defBody s_law_apart_edges, defScope s_law_apart_edges, [], []⟩
abbrev s_law_fewest_of : Stmt := top 110
def d_law_fewest_of : He.DefD := ⟨("_law_fewest_of", none), "_law_fewest_of", "_law_fewest_of", defArgs s_law_fewest_of, defBody s_law_fewest_of, defScope s_law_fewest_of, [], []⟩
abbrev s_law_t_films : Stmt := top 111
def d_law_t_films : He.DefD := ⟨("_law_t_films", none), "_law_t_films", "_law_t_films", defArgs s_law_t_films, defBody s_law_t_films, defScope s_law_t_films, [], []⟩
abbrev s_law_t_begun : Stmt := top 112
def d_law_t_begun : He.DefD := ⟨("_law_t_begun", none), "_law_t_begun", "_law_t_begun", defArgs s_law_t_begun, defBody s_law_t_begun, defScope s_law_t_begun, [], []⟩
abbrev s_law_t_truths : Stmt := top 113
def d_law_t_truths : He.DefD := ⟨("_law_t_truths", none), "_law_t_truths", "_law_t_truths", defArgs s_law_t_truths, defBody s_law_t_truths, defScope s_law_t_truths, [], []⟩
abbrev s_law_t_made_films : Stmt := top 114
def d_law_t_made_films : He.DefD := ⟨("_law_t_made_films", none), "_law_t_made_films", "_law_t_made_films", defArgs s_law_t_made_films, defBody s_law_t_made_films, defScope s_law_t_made_films, [], []⟩
abbrev s_law_fewest_all : Stmt := top 115
def d_law_fewest_all : He.DefD := ⟨("_law_fewest_all", none), "_law_fewest_all", "_law_fewest_all", defArgs s_law_fewest_all, defBody s_law_fewest_all, defScope s_law_fewest_all, [], []⟩
abbrev s_law_right : Stmt := top 116
def d_law_right : He.DefD := ⟨("_law_right", none), "_law_right", "_law_right", defArgs s_law_right, defBody s_law_right, defScope s_law_right, [], []⟩
abbrev s_law : Stmt := top 117
def d_law : He.DefD := ⟨("law", none), "law", "law", defArgs s_law, defBody s_law, defScope s_law, [], []⟩
abbrev s_Board___init__ : Stmt := inClass (top 30) 0
def d_Board___init__ : He.DefD := ⟨("Board", some "__init__"), "__init__", "Board.__init__", defArgs s_Board___init__, defBody s_Board___init__, defScope s_Board___init__, [], []⟩
abbrev s_Board_rows : Stmt := inClass (top 30) 1
abbrev s_Board___contains__ : Stmt := inClass (top 30) 7
def d_Board___contains__ : He.DefD := ⟨("Board", some "__contains__"), "__contains__", "Board.__contains__", defArgs s_Board___contains__, defBody s_Board___contains__, defScope s_Board___contains__, [], []⟩
abbrev s_Board___eq__ : Stmt := inClass (top 30) 10
def d_Board___eq__ : He.DefD := ⟨("Board", some "__eq__"), "__eq__", "Board.__eq__", defArgs s_Board___eq__, defBody s_Board___eq__, defScope s_Board___eq__, [], []⟩
abbrev s_Picture___init__ : Stmt := inClass (top 48) 0
def d_Picture___init__ : He.DefD := ⟨("Picture", some "__init__"), "__init__", "Picture.__init__", defArgs s_Picture___init__, defBody s_Picture___init__, defScope s_Picture___init__, [.adr (He.dflAt ("Picture", some "__init__") 0)], []⟩
abbrev s_Picture_dots : Stmt := inClass (top 48) 2
abbrev s_Picture___contains__ : Stmt := inClass (top 48) 4
def d_Picture___contains__ : He.DefD := ⟨("Picture", some "__contains__"), "__contains__", "Picture.__contains__", defArgs s_Picture___contains__, defBody s_Picture___contains__, defScope s_Picture___contains__, [], []⟩
abbrev s_Film___init__ : Stmt := inClass (top 59) 0
def d_Film___init__ : He.DefD := ⟨("Film", some "__init__"), "__init__", "Film.__init__", defArgs s_Film___init__, defBody s_Film___init__, defScope s_Film___init__, [], []⟩
abbrev s_Film_picture_at : Stmt := inClass (top 59) 3
def d_Film_picture_at : He.DefD := ⟨("Film", some "picture_at"), "picture_at", "Film.picture_at", defArgs s_Film_picture_at, defBody s_Film_picture_at, defScope s_Film_picture_at, [], []⟩
abbrev s_Film_lit_at : Stmt := inClass (top 59) 4
def d_Film_lit_at : He.DefD := ⟨("Film", some "lit_at"), "lit_at", "Film.lit_at", defArgs s_Film_lit_at, defBody s_Film_lit_at, defScope s_Film_lit_at, [], []⟩
abbrev s_Film___len__ : Stmt := inClass (top 59) 8
def d_Film___len__ : He.DefD := ⟨("Film", some "__len__"), "__len__", "Film.__len__", defArgs s_Film___len__, defBody s_Film___len__, defScope s_Film___len__, [], []⟩
abbrev s_Film___rshift__ : Stmt := inClass (top 59) 9
def d_Film___rshift__ : He.DefD := ⟨("Film", some "__rshift__"), "__rshift__", "Film.__rshift__", defArgs s_Film___rshift__, defBody s_Film___rshift__, defScope s_Film___rshift__, [], []⟩
abbrev s_Living___init__ : Stmt := inClass (top 71) 1
def d_Living___init__ : He.DefD := ⟨("Living", some "__init__"), "__init__", "Living.__init__", defArgs s_Living___init__, defBody s_Living___init__, defScope s_Living___init__, [], []⟩
abbrev s_Living_may_be_dead : Stmt := inClass (top 71) 2
def d_Living_may_be_dead : He.DefD := ⟨("Living", some "may_be_dead"), "may_be_dead", "Living.may_be_dead", defArgs s_Living_may_be_dead, defBody s_Living_may_be_dead, defScope s_Living_may_be_dead, [], []⟩
abbrev s_Living_edge : Stmt := inClass (top 71) 5
def d_Living_edge : He.DefD := ⟨("Living", some "edge"), "edge", "Living.edge", defArgs s_Living_edge, defBody s_Living_edge, defScope s_Living_edge, [], []⟩
abbrev s_Account___init__ : Stmt := inClass (top 75) 1
def d_Account___init__ : He.DefD := ⟨("Account", some "__init__"), "__init__", "Account.__init__", defArgs s_Account___init__, defBody s_Account___init__, defScope s_Account___init__, [], []⟩
abbrev s_Account_fewest : Stmt := inClass (top 75) 2
def d_Account_fewest : He.DefD := ⟨("Account", some "fewest"), "fewest", "Account.fewest", defArgs s_Account_fewest, defBody s_Account_fewest, defScope s_Account_fewest, [], []⟩
def fa0 : List He.Fa := [.free "isinstance", .free "int", .free "bool", .free "tuple", .free "str", .free "all", .free "len", .free "zip", .free "enumerate", .free "range", .free "abs", .free "max", .free "min", .free "list", .free "sorted", .free "set", .free "sum", .free "repr", .int "PAIR" 2, .int "MOST_ROWS" 10]
def fa1 : List He.Fa := [.int "MOST_COLUMNS" 10, .int "MOST_PICTURES" 12, .int "MOST_LOOKS" 12, .int "MOST_FILMS" 6, .int "MOST_TOGETHER" 24, .int "MOST_DEAD" 20, .str "DOT" "o", .str "GAP" ".", .str "ROW" "row", .str "COLUMN" "column", .str "LONE" "lone", .glo "is_integer", .glo "is_rising", .glo "is_tuple", .glo "is_pair", .glo "is_row", .glo "are_rows", .glo "left_end", .glo "right_end", .glo "neighbours"]
def fa2 : List He.Fa := [.glo "grow", .glo "matched", .glo "is_barred", .glo "fewest_of", .glo "are_dots", .glo "are_pictures", .glo "is_look", .glo "check_seen", .glo "check_films", .glo "check_k", .glo "truths_of", .glo "wires_at", .glo "strays", .glo "missing", .glo "edges_of", .glo "accounts", .glo "told", .glo "least_dead", .glo "_law_pot", .glo "_law_take"]
def fa3 : List He.Fa := [.glo "_law_of", .glo "_law_some", .glo "_law_part", .glo "_law_rows", .glo "_law_dots", .glo "_law_lit", .glo "_law_film", .glo "_law_near_film", .glo "_law_dead", .glo "_law_is_met", .glo "_law_left", .glo "_law_shown", .glo "_law_made_film", .glo "_law_made_seen", .glo "_law_far_looks", .glo "_law_wires_of", .glo "_law_dead_of", .glo "_law_seen_while_dying", .glo "_law_bent_seen", .glo "_law_drawn_seen"]
def fa4 : List He.Fa := [.glo "_law_lit_at", .glo "_law_last_lit", .glo "_law_may_be_dead", .glo "_law_first_stray", .glo "_law_missing", .glo "_law_demands", .glo "_law_grown", .glo "_law_apart_edges", .glo "_law_fewest_of", .glo "_law_t_films", .glo "_law_t_begun", .glo "_law_t_truths", .glo "_law_t_made_films", .glo "_law_fewest_all", .glo "_law_right", .glo "law", .glo "Board", .glo "Picture", .glo "Film", .glo "Living"]
def fa5 : List He.Fa := [.glo "Account", .cls "Board", .mkr "Board", .noat "Board" "own_rows", .noat "Board" "own_dots", .noat "Board" "own_at", .cls "Picture", .mkr "Picture", .noat "Picture" "own_board", .noat "Picture" "own_dots", .noat "Picture" "own_lit", .cls "Film", .mkr "Film", .noat "Film" "own_pictures", .noat "Film" "own_board", .meth "Film" "picture_at", .meth "Film" "lit_at"]
def fa : List He.Fa := fa0 ++ fa1 ++ fa2 ++ fa3 ++ fa4 ++ fa5
def fn0 : List He.DefD := [d_is_integer, d_is_rising, d_is_tuple, d_is_pair, d_is_row, d_are_rows, d_left_end, d_right_end, d_neighbours, d_grow, d_matched, d_is_barred, d_fewest_of, d_are_dots, d_are_pictures, d_is_look, d_check_seen, d_check_films, d_check_k, d_truths_of]
def fn1 : List He.DefD := [d_wires_at, d_strays, d_missing, d_edges_of, d_accounts, d_told, d_least_dead, d_law_pot, d_law_take, d_law_of, d_law_some, d_law_part, d_law_rows, d_law_dots, d_law_lit, d_law_film, d_law_near_film, d_law_dead, d_law_is_met, d_law_left]
def fn2 : List He.DefD := [d_law_shown, d_law_made_film, d_law_made_seen, d_law_far_looks, d_law_wires_of, d_law_dead_of, d_law_seen_while_dying, d_law_bent_seen, d_law_drawn_seen, d_law_lit_at, d_law_last_lit, d_law_may_be_dead, d_law_first_stray, d_law_missing, d_law_demands, d_law_grown, d_law_apart_edges, d_law_fewest_of, d_law_t_films, d_law_t_begun]
def fn3 : List He.DefD := [d_law_t_truths, d_law_t_made_films, d_law_fewest_all, d_law_right, d_law, d_Board___init__, d_Board___contains__, d_Board___eq__, d_Picture___init__, d_Picture___contains__, d_Film___init__, d_Film_picture_at, d_Film_lit_at, d_Film___len__, d_Film___rshift__, d_Living___init__, d_Living_may_be_dead, d_Living_edge, d_Account___init__, d_Account_fewest]
def fn : List He.DefD := fn0 ++ fn1 ++ fn2 ++ fn3
/-! ### what else the head tells -/
def gAt (K : PySem.W.Frag) (C f : Str) : Addr := match PySem.W.recIn K (He.ma K (He.ga K C) f) "property" with
  | some (.ref g :: _) => g
  | _ => 0
def fnAt (K : PySem.W.Frag) (g : Addr) : He.FnW := match K.lookup g with
  | some ⟨_, _, .func fd, _⟩ => (some (fd.name, fd.qualname, fd.params, fd.body, fd.scope, fd.globals, fd.closure, fd.builtins))
  | _ => none
def isNoneV : Value → Bool
  | .none => true
  | _ => false
def propB (K : PySem.W.Frag) (C f q : Str) : Bool :=
  He.eqO (PySem.W.findIn K (.ref (He.ga K C)) f) (some (some (.ref (He.ma K (He.ga K C) f)))) &&
  (He.eqO (PySem.W.specialIn K (.ref (He.ma K (He.ga K C) f)) "__get__") (some (some (.builtin "property.__get__"))) &&
  (decide (PySem.W.takesIn K (.ref (He.ma K (He.ga K C) f)) = some true) &&
  ((match PySem.W.recIn K (He.ma K (He.ga K C) f) "property" with
    | some (.ref g :: _) => true
    | _ => false) &&
  (match K.lookup (gAt K C f) with
    | some ⟨_, _, .func fd, _⟩ => PySem.W.codeIn K fd.code q && isNoneV fd.defaults
    | _ => false))))
def isiB (K : PySem.W.Frag) (C : Str) : Bool :=
  He.eqO (PySem.W.findIn K (.ref (He.ga K C)) "__class__") (some (some (.builtin "object.__class__"))) &&
  (He.eqO (PySem.W.specialIn K (.builtin "object.__class__") "__get__") (some (some (.builtin "getset_descriptor.__get__"))) &&
  (decide (PySem.W.takesIn K (.builtin "object.__class__") = some true) &&
  (decide (PySem.W.mroIn K (He.ga K C) (.type "object") = some true) &&
  decide (PySem.W.kitOne K (.ref (He.ga K C)) (.ref (He.ga K C)) = some true))))
def sclB (K : PySem.W.Frag) (C : Str) : Bool :=
  PySem.W.plainGet K (He.ga K C) Str.empty && (PySem.W.isClsIn K (He.ga K C) && (PySem.W.plainOver K (He.ga K C) &&
  He.eqO (PySem.W.findIn K (.ref (He.ga K C)) "__setattr__") (some (some (.builtin "object.__setattr__")))))
def slotB (K : PySem.W.Frag) (z : Str × Str × Nat) : Bool :=
  He.eqO (PySem.W.findIn K (.ref (He.ga K z.1)) z.2.1) (some (some (.ref (He.ma K (He.ga K z.1) z.2.1)))) &&
  (He.eqO (PySem.W.specialIn K (.ref (He.ma K (He.ga K z.1) z.2.1)) "__get__") (some (some (.builtin "member_descriptor.__get__"))) &&
  (decide (PySem.W.takesIn K (.ref (He.ma K (He.ga K z.1) z.2.1)) = some true) &&
  (decide (PySem.W.typeIn K (.ref (He.ma K (He.ga K z.1) z.2.1)) = some (.type "member_descriptor")) &&
  (decide (PySem.W.slotIn K (He.ma K (He.ga K z.1) z.2.1) (He.ga K z.1) = some z.2.2) && decide (z.2.2 < 1000)))))
def shrB (K : PySem.W.Frag) (C : Str) : Bool :=
  PySem.W.selfFirst K (He.ga K C) && (He.eqO (PySem.W.findIn K (.ref (He.ga K C)) (dunderR "rshift")) (some none) &&
  ((PySem.W.findIn K (.type "int") (PySem.dunder "rshift")).isSome && ((PySem.W.findIn K (.type "int") (dunderR "rshift")).isSome &&
  decide (PySem.W.subIn K (.type "int") (.ref (He.ga K C)) = some false))))
def exFa : List He.Fa := [.meth "Board" "__contains__", .meth "Board" "__eq__", .meth "Picture" "__contains__", .meth "Film" "__len__", .meth "Film" "__rshift__", .mkr "Living", .mkr "Account", .meth "Living" "edge", .meth "Living" "may_be_dead", .meth "Account" "fewest"]
def exSl : List (Str × Str × Nat) := [("Living", "own_alive", 0), ("Living", "own_dying", 1), ("Living", "own_end", 2), ("Living", "own_last", 3), ("Account", "own_edges", 0), ("Account", "own_film", 1), ("Account", "own_living", 2)]
def exOk (K : PySem.W.Frag) : Bool := (exFa.all fun f => f.ok K) && ((exSl.all fun z => slotB K z) && (((["Board", "Picture", "Film"] : List Str).all fun C => isiB K C) && (((["Living", "Account"] : List Str).all fun C => sclB K C) && (shrB K "Film" && (propB K "Board" "rows" "Board.rows" && propB K "Picture" "dots" "Picture.dots")))))
abbrev FnV3 (st : Stmt) (name qual : Str) : He.FnW := some (name, qual, defArgs st, .stmts (defBody st), defScope st, mainGlobals, [], builtinsNs)
/-! ### the head: what the top leaves -/
abbrev RowO : PySem.W.OpenRow := PySem.W.OpenLaw.row PySem.Challenge.rw_wiresindark_k31_whole_least_dead_on_grea
abbrev qv : Program := PySem.W.view RowO.prog [117]
def nm0 : List PySem.Str := ["_wall", "__name__", "WireError", "BadBoard", "BadDots", "BadRows", "BadColumns", "OtherBoard", "BadPictures", "BadTick", "TooLong", "BadSeen", "BadNumber", "BadFilms", "PAIR", "is_integer", "is_rising", "is_tuple", "is_pair", "are_numbers", "DOT", "GAP", "MOST_ROWS", "MOST_COLUMNS", "ROW", "COLUMN", "is_row", "are_rows", "Board", "is_wire"]
def nm1 : List PySem.Str := ["LONE", "left_end", "right_end", "neighbours", "grow", "matched", "is_barred", "fewest_of", "LIT", "check_board", "are_dots", "left_of", "sign_at", "rows_of", "Picture", "picture_of", "named_wires", "Dead", "dead_of", "joined", "MOST_PICTURES", "MOST_LOOKS", "are_pictures", "check_many", "Film", "MOST_FILMS", "MOST_TOGETHER", "is_look", "check_seen", "check_films"]
def nm2 : List PySem.Str := ["check_k", "truths_of", "wires_at", "strays", "missing", "Living", "edges_of", "MOST_DEAD", "Account", "accounts", "told", "least_dead", "_law_pot", "_law_take", "_law_of", "_law_some", "_law_part", "_law_rows", "_law_dots", "_law_lit", "_law_film", "_law_near_film", "_law_dead", "_law_is_met", "_law_left", "_law_shown", "_law_made_film", "_law_made_seen", "_law_far_looks", "_law_wires_of"]
def nm3 : List PySem.Str := ["_law_dead_of", "_law_seen_while_dying", "_law_bent_seen", "_law_drawn_seen", "_law_lit_at", "_law_last_lit", "_law_may_be_dead", "_law_first_stray", "_law_missing", "_law_demands", "_law_grown", "_law_apart_edges", "_law_fewest_of", "_law_t_films", "_law_t_begun", "_law_t_truths", "_law_t_made_films", "_law_fewest_all", "_law_right"]
def names : List PySem.Str := nm0 ++ nm1 ++ nm2 ++ nm3
def ad0 : List Addr := [3, 40, 53, 65, 77, 89, 101, 113, 125, 137, 149, 161, 173, 302, 489, 643, 770, 865, 925, 39, 52, 64, 76, 88, 100, 112, 124, 136, 148, 160, 172, 301, 488, 642, 769, 864, 924, 237, 245, 253]
def ad1 : List Addr := [261, 267, 275, 413, 421, 429, 528, 536, 544, 552, 558, 691, 699, 41, 303, 304, 490, 491, 644, 645, 771, 772, 866, 867, 868, 869, 926, 927, 928, 21, 37, 183, 188, 195, 202, 207, 212, 217, 229, 236]
def ad2 : List Addr := [244, 252, 260, 266, 274, 280, 287, 292, 299, 313, 320, 327, 334, 341, 348, 355, 362, 369, 374, 379, 386, 391, 405, 412, 420, 428, 436, 443, 448, 455, 460, 467, 472, 479, 486, 500, 505, 520, 527, 535]
def ad3 : List Addr := [543, 551, 557, 565, 572, 579, 586, 593, 600, 607, 612, 619, 626, 633, 640, 652, 657, 662, 669, 683, 690, 698, 706, 713, 720, 727, 734, 741, 748, 755, 760, 767, 781, 786, 791, 798, 803, 810, 815, 820]
def ad4 : List Addr := [833, 840, 847, 854, 861, 878, 893, 900, 907, 914, 921, 937, 943, 949, 956, 963, 970, 977, 982, 989, 994, 999, 1004, 1009, 1014, 1021, 1026, 1031, 1036, 1041, 1048, 1053, 1058, 1063, 1068, 1075, 1082, 1089, 1096, 1101]
def ad5 : List Addr := [1106, 1113, 1118, 1123, 1128, 1135, 1142, 1147, 1152, 1159, 1164, 1171, 20, 36, 182, 187, 194, 201, 206, 211, 216, 228, 235, 243, 251, 259, 265, 273, 279, 286, 291, 298, 312, 319, 326, 333, 340, 347, 354, 361]
def ad6 : List Addr := [368, 373, 378, 385, 390, 404, 411, 419, 427, 435, 442, 447, 454, 459, 466, 471, 478, 485, 499, 504, 519, 526, 534, 542, 550, 556, 564, 571, 578, 585, 592, 599, 606, 611, 618, 625, 632, 639, 651, 656]
def ad7 : List Addr := [661, 668, 682, 689, 697, 705, 712, 719, 726, 733, 740, 747, 754, 759, 766, 780, 785, 790, 797, 802, 809, 814, 819, 832, 839, 846, 853, 860, 877, 892, 899, 906, 913, 920, 936, 942, 948, 955, 962, 969]
def ad8 : List Addr := [976, 981, 988, 993, 998, 1003, 1008, 1013, 1020, 1025, 1030, 1035, 1040, 1047, 1052, 1057, 1062, 1067, 1074, 1081, 1088, 1095, 1100, 1105, 1112, 1117, 1122, 1127, 1134, 1141, 1146, 1151, 1158, 1163, 1170, 176, 400, 515, 938, 944]
def ads : List Addr := ad0 ++ ad1 ++ ad2 ++ ad3 ++ ad4 ++ ad5 ++ ad6 ++ ad7 ++ ad8
abbrev Ob1 : Type := Bool × Bool × He.FnW × He.FnW
abbrev ObX : Type := Ob1 × He.AlD
def exX (K : PySem.W.Frag) : Ob1 := (exOk K, fa.all fun f => f.ok K, fnAt K (gAt K "Board" "rows"), fnAt K (gAt K "Picture" "dots"))
def fnX (K : PySem.W.Frag) : He.AlD := (fn.all fun d => d.ok K, fn.map fun d => He.fnW K d.at_)
def va1 : Ob1 := (true, true, FnV3 s_Board_rows "rows" "Board.rows", FnV3 s_Picture_dots "dots" "Picture.dots")
def va2 : He.AlD := He.valD fn
def vaX : ObX := (va1, va2)
def ob1 (g : Addr → Option Obj) : Ob1 := exX (He.frG g ads)
def ob2 (g : Addr → Option Obj) : He.AlD := fnX (He.frG g ads)
def obG (g : Addr → Option Obj) : ObX := (ob1 g, ob2 g)
def hkX : PySem.W.Hook where
  α := ObX
  obs := fun s => obG s.heap.get?
  val := fun _ => vaX
  says := fun _ h => ∃ K : PySem.W.Frag, K.In h ∧ exX K = va1 ∧ fnX K = va2
  of := fun _ s e => ⟨He.frG s.heap.get? ads, He.frG_in, (Prod.mk.inj e).1, (Prod.mk.inj e).2⟩
  keeps := fun _ _ _ ⟨K, inK, c⟩ k => ⟨K, PySem.W.Frag.In.keeps inK k, c⟩
def obT (s : PySem.W.SharedT) : ObX := obG (HandSHeadRun.getT s)
theorem obT_eq (s : PySem.W.SharedT) : obT s = hkX.obs s.abs := by
  have e : HandSHeadRun.getT s = s.abs.heap.get? := funext fun a => HandSHeadRun.getT_eq s a
  show obG (HandSHeadRun.getT s) = obG s.abs.heap.get?
  rw [e]
noncomputable abbrev endX (w : World) (os : OsState) : Option PySem.W.SharedT := HandSHeadRun.endF (HandSHeadRun.stepQ (HandSHeadRun.denQ HandSHeadRun.tabQ) RowO.prog w) 20000 RowO.prog w os
theorem run0 (w : World) : HandSHeadRun.RunEq RowO qv PySem.W.Hook.none (fun _ => ()) 20000 names w := by
  intro os
  kernel_rfl
theorem run1 (w : World) (os : OsState) : (endX w os).map (fun s => ob1 (HandSHeadRun.getT s)) = some va1 := by
  kernel_rfl
theorem run2 (w : World) (os : OsState) : (endX w os).map (fun s => ob2 (HandSHeadRun.getT s)) = some va2 := by
  kernel_rfl
theorem map_some {α β : Type} {o : Option α} {f : α → β} {b : β} {s : α} (e : o = some s) (h : o.map f = some b) : f s = b := by
  subst e
  exact Option.some.inj h
theorem run (w : World) : HandSHeadRun.RunEq RowO qv hkX obT 20000 names w := by
  intro os
  have h0 := run0 w os
  have h1 := run1 w os
  have h2 := run2 w os
  obtain ⟨s, es, hs⟩ := Option.map_eq_some_iff.mp h0
  have e1 := map_some es h1
  have e2 := map_some es h2
  show (endX w os).map _ = _
  have es2 : endX w os = some s := es
  rw [es2]
  show some (_, _, obT s) = some (_, _, vaX)
  have eo : obT s = vaX := by
    show (ob1 (HandSHeadRun.getT s), ob2 (HandSHeadRun.getT s)) = (va1, va2)
    rw [e1, e2]
  rw [eo]
  have h3 := (Prod.mk.inj hs)
  have h4 := (Prod.mk.inj h3.2)
  rw [h3.1, h4.1]
end K31
namespace K31
open L2 PySem PySem.Spec PyProof.Rows

/-- what no store changes -/
def Imm : HO → Bool
  | .tup _ => true
  | .ins _ _ _ => true
  | .own _ => true
  | .frz _ _ => true
  | _ => false
def Le (H H' : Hp) : Prop := ∀ a o, H a = some o → Imm o = true → H' a = some o
theorem Le.refl (H : Hp) : Le H H := fun _ _ h _ => h
theorem Le.trans {H H1 H2 : Hp} (a : Le H H1) (b : Le H1 H2) : Le H H2 := fun x o h i => b x o (a x o h i) i
theorem Le.of {H H' : Hp} (s : Same H H') : Le H H' := fun a o h _ => s a o h
/-! ### what is known of a value, whatever is stored -/
structure PP where
  p : Hp → V → Prop
  le : ∀ {H H' : Hp} {v : V}, Le H H' → p H v → p H' v
/-! ### data -/
inductive D where
  | non | bl (b : Bool) | int (i : Int) | str (s : Str) | tup (ds : List D) | any | obj (P : PP)

mutual
inductive Rep (H : Hp) : D → V → Prop
  | non : Rep H .non .non
  | bl (b : Bool) : Rep H (.bl b) (.bl b)
  | int (i : Int) : Rep H (.int i) (.int i)
  | str (s : Str) : Rep H (.str s) (.str s)
  | tup {a : Addr} {vs : List V} {ds : List D} : H a = some (.tup vs) → RepL H ds vs → Rep H (.tup ds) (.ref a)
  | any (v : V) : Rep H .any v
  | obj {P : PP} {v : V} : P.p H v → Rep H (.obj P) v
inductive RepL (H : Hp) : List D → List V → Prop
  | nil : RepL H [] []
  | cons {d : D} {v : V} {ds : List D} {vs : List V} : Rep H d v → RepL H ds vs → RepL H (d :: ds) (v :: vs)
end

theorem Le.tup {H H' : Hp} (l : Le H H') {a : Addr} {xs : List V} (h : H a = some (.tup xs)) : H' a = some (.tup xs) := l a _ h rfl
theorem Le.upd {H : Hp} {a : Addr} {o u : HO} (h : H a = some u) (hi : Imm u = false) : Le H (upd H a o) := fun b v hb hv => by
  have : b ≠ a := by
    intro e; subst e; rw [h] at hb; cases hb; rw [hi] at hv; cases hv
  rw [upd_ne this]; exact hb
theorem same_upd {H : Hp} {a : Addr} {o : HO} (h : H a = none) : Same H (upd H a o) := fun b v hb => by
  have : b ≠ a := by intro e; subst e; rw [h] at hb; cases hb
  rw [upd_ne this]; exact hb

mutual
theorem Rep.le {H H' : Hp} (l : Le H H') : ∀ {d : D} {v : V}, Rep H d v → Rep H' d v
  | _, _, .non => .non
  | _, _, .bl b => .bl b
  | _, _, .int i => .int i
  | _, _, .str s => .str s
  | _, _, .tup h r => .tup (l.tup h) (RepL.le l r)
  | _, _, .any v => .any v
  | _, _, .obj (P := P) h => .obj (P.le l h)
theorem RepL.le {H H' : Hp} (l : Le H H') : ∀ {ds : List D} {vs : List V}, RepL H ds vs → RepL H' ds vs
  | _, _, .nil => .nil
  | _, _, .cons r t => .cons (Rep.le l r) (RepL.le l t)
end
theorem RepL.length {H : Hp} : ∀ {ds : List D} {vs : List V}, RepL H ds vs → ds.length = vs.length
  | _, _, .nil => rfl
  | _, _, .cons _ t => by simp [RepL.length t]
theorem RepL.get {H : Hp} : ∀ {ds : List D} {vs : List V} {i : Nat} {d : D}, RepL H ds vs → ds[i]? = some d → ∃ v, vs[i]? = some v ∧ Rep H d v
  | _, _, _, _, .nil, e => (by simp at e)
  | _, _, 0, _, .cons r _, e => (by simp at e; subst e; exact ⟨_, rfl, r⟩)
  | _, _, i + 1, _, .cons _ t, e => by
    obtain ⟨v, h1, h2⟩ := RepL.get (i := i) t (by simpa using e)
    exact ⟨v, by simpa using h1, h2⟩
theorem RepL.getV {H : Hp} : ∀ {ds : List D} {vs : List V} {i : Nat} {v : V}, RepL H ds vs → vs[i]? = some v → ∃ d, ds[i]? = some d ∧ Rep H d v
  | _, _, _, _, .nil, e => (by simp at e)
  | _, _, 0, _, .cons r _, e => (by simp at e; subst e; exact ⟨_, rfl, r⟩)
  | _, _, i + 1, _, .cons _ t, e => by
    obtain ⟨v, h1, h2⟩ := RepL.getV (i := i) t (by simpa using e)
    exact ⟨v, by simpa using h1, h2⟩
theorem RepL.append {H : Hp} : ∀ {ds es : List D} {vs us : List V}, RepL H ds vs → RepL H es us → RepL H (ds ++ es) (vs ++ us)
  | _, _, _, _, .nil, s => s
  | _, _, _, _, .cons r t, s => .cons r (RepL.append t s)
theorem RepL.take {H : Hp} : ∀ {ds : List D} {vs : List V} (n : Nat), RepL H ds vs → RepL H (ds.take n) (vs.take n)
  | _, _, 0, _ => .nil
  | _, _, _ + 1, .nil => .nil
  | _, _, n + 1, .cons r t => .cons r (RepL.take n t)
theorem RepL.drop {H : Hp} : ∀ {ds : List D} {vs : List V} (n : Nat), RepL H ds vs → RepL H (ds.drop n) (vs.drop n)
  | _, _, 0, r => r
  | _, _, _ + 1, .nil => .nil
  | _, _, n + 1, .cons _ t => RepL.drop n t

def R (d : D) : PP := ⟨fun H v => Rep H d v, fun l r => r.le l⟩
/-- the object at a -/
def rf (a : Addr) : PP := ⟨fun _ v => v = .ref a, fun _ h => h⟩
/-- what held at H0 -/
def At (H0 : Hp) (P : Hp → V → Prop) : PP := ⟨fun _ v => P H0 v, fun _ h => h⟩

abbrev Rho := List (Option PP)
structure Env (ρ : Rho) (σ : L2.St) (H : Hp) : Prop where
  len : ρ.length = σ.length
  at_ : ∀ (i : Nat) (P : PP), ρ[i]? = some (some P) → ∃ v, σ[i]? = some (some v) ∧ P.p H v
section
variable {ρ : Rho} {σ : L2.St} {H H' : Hp}
theorem Env.le (E : Env ρ σ H) (l : Le H H') : Env ρ σ H' := ⟨E.len, fun i P h => let ⟨v, e, p⟩ := E.at_ i P h; ⟨v, e, P.le l p⟩⟩
theorem Env.same (E : Env ρ σ H) (l : Same H H') : Env ρ σ H' := E.le (.of l)
theorem Env.set (E : Env ρ σ H) (i : Nat) {P : PP} {v : V} (h : P.p H v) : Env (ρ.set i (some P)) (σ.set i (some v)) H := by
  refine ⟨by simp [E.len], fun j Q hq => ?_⟩
  by_cases hj : i = j
  · subst hj
    by_cases hi : i < ρ.length
    · rw [List.getElem?_set_self hi] at hq
      cases hq
      exact ⟨v, by rw [List.getElem?_set_self (by rw [← E.len]; exact hi)], h⟩
    · rw [List.set_eq_of_length_le (by omega)] at hq
      rw [List.getElem?_eq_none (by omega)] at hq; cases hq
  · rw [List.getElem?_set_ne hj] at hq ⊢
    exact E.at_ j Q hq
theorem Env.unset (E : Env ρ σ H) (i : Nat) (o : Option V) : Env (ρ.set i none) (σ.set i o) H := by
  refine ⟨by simp [E.len], fun j Q hq => ?_⟩
  by_cases hj : i = j
  · subst hj
    by_cases hi : i < ρ.length
    · rw [List.getElem?_set_self hi] at hq; cases hq
    · rw [List.set_eq_of_length_le (by omega)] at hq
      rw [List.getElem?_eq_none (by omega)] at hq; cases hq
  · rw [List.getElem?_set_ne hj] at hq ⊢
    exact E.at_ j Q hq
def wipeR (ρ : Rho) : List Nat → Rho
  | [] => ρ
  | v :: vs => (wipeR ρ vs).set v none
theorem Env.wipe (E : Env ρ σ H) : ∀ vs : List Nat, Env (wipeR ρ vs) (wipe σ vs) H
  | [] => E
  | v :: vs => (Env.wipe E vs).unset v none
/-- forgetting -/
theorem Env.weak {ρ' : Rho} (E : Env ρ σ H) (hl : ρ'.length = ρ.length) (w : ∀ (i : Nat) (P : PP), ρ'[i]? = some (some P) → ρ[i]? = some (some P)) : Env ρ' σ H :=
  ⟨hl.trans E.len, fun i P h => E.at_ i P (w i P h)⟩
end

/-! ### the weakest readings -/
section
variable {X : Cx}
def WE (X : Cx) (e : Expr) : TE := fun σ H Q => ∀ (pins : List (Addr × Obj)) (s : Shared), Inv X pins σ H s → wpAny (model X.prog X.w) X.A (eval e X.env) (EP X pins σ Q) X.xe s
def WT (X : Cx) (e : Expr) : TT := fun σ H Q => ∀ (pins : List (Addr × Obj)) (s : Shared), Inv X pins σ H s → wpAny (model X.prog X.w) X.A (isTrue e X.env (eval e X.env)) (TP X pins σ Q) X.xe s
def WA (X : Cx) (es : List Expr) : TA := fun σ H Q => ∀ (pos : Pos) (pins : List (Addr × Obj)) (s : Shared), Inv X pins σ H s → wpAny (model X.prog X.w) X.A (spliced (backTo pos (starEach es X.env))) (AP X pins σ Q) X.xe s
def WS (X : Cx) (st : Stmt) : TS := fun D σ H => ∀ (pins : List (Addr × Obj)) (s : Shared), Inv X pins σ H s → wpAny (model X.prog X.w) X.A (exec st X.env) (SP X pins D) X.xe s
def WSs (X : Cx) (st : List Stmt) : TS := fun D σ H => ∀ (pins : List (Addr × Obj)) (s : Shared), Inv X pins σ H s → wpAny (model X.prog X.w) X.A (execs st X.env) (SP X pins D) X.xe s
def WG (X : Cx) (tg : Expr) : TG := fun v σ H Q => ∀ (pins : List (Addr × Obj)) (s : Shared) (u : Value), Inv X pins σ H s → RelV v u →
    wpAny (model X.prog X.w) X.A (assign tg X.env u) (fun _ s' => ∃ σ' H', Inv X pins σ' H' s' ∧ Q σ' H') X.xe s
theorem pe_W {e : Expr} : PE X e (WE X e) := ⟨fun pins s σ H Q I h => h pins s I⟩
theorem pt_W {e : Expr} : PT X e (WT X e) := ⟨fun pins s σ H Q I h => h pins s I⟩
theorem pa_W {es : List Expr} : PA X es (WA X es) := ⟨fun pos pins s σ H Q I h => h pos pins s I⟩
theorem ps_W {st : Stmt} : PS X st (WS X st) := ⟨fun pins s σ H Q I h => h pins s I⟩
theorem pss_W {st : List Stmt} : PSs X st (WSs X st) := ⟨fun pins s σ H Q I h => h pins s I⟩
theorem pg_W {tg : Expr} : PG X tg (WG X tg) := ⟨fun pins s σ H v u Q I r h => h pins s u I r⟩
theorem WE.by {e : Expr} {t : TE} (h : PE X e t) {σ : L2.St} {H : Hp} {Q : VK} (q : t σ H Q) : WE X e σ H Q := fun pins s I => h.run pins s σ H Q I q
theorem WT.by {e : Expr} {t : TT} (h : PT X e t) {σ : L2.St} {H : Hp} {Q : Bool → Hp → Prop} (q : t σ H Q) : WT X e σ H Q := fun pins s I => h.run pins s σ H Q I q
theorem WA.by {es : List Expr} {t : TA} (h : PA X es t) {σ : L2.St} {H : Hp} {Q : List V → Hp → Prop} (q : t σ H Q) : WA X es σ H Q := fun pos pins s I => h.run pos pins s σ H Q I q
theorem WS.by {st : Stmt} {t : TS} (h : PS X st t) {σ : L2.St} {H : Hp} {D : Ends} (q : t D σ H) : WS X st D σ H := fun pins s I => h.run pins s σ H D I q
theorem WSs.by {st : List Stmt} {t : TS} (h : PSs X st t) {σ : L2.St} {H : Hp} {D : Ends} (q : t D σ H) : WSs X st D σ H := fun pins s I => h.run pins s σ H D I q
theorem WE.mono {e : Expr} {σ : L2.St} {H : Hp} {Q Q' : VK} (h : WE X e σ H Q) (q : ∀ v H', Q v H' → Q' v H') : WE X e σ H Q' := fun pins s I =>
  thn (h pins s I) fun u s' ⟨v, H', I', r, z⟩ => ⟨v, H', I', r, q v H' z⟩
theorem WT.mono {e : Expr} {σ : L2.St} {H : Hp} {Q Q' : Bool → Hp → Prop} (h : WT X e σ H Q) (q : ∀ v H', Q v H' → Q' v H') : WT X e σ H Q' := fun pins s I =>
  thn (h pins s I) fun u s' ⟨H', I', z⟩ => ⟨H', I', q u H' z⟩
theorem WA.mono {es : List Expr} {σ : L2.St} {H : Hp} {Q Q' : List V → Hp → Prop} (h : WA X es σ H Q) (q : ∀ v H', Q v H' → Q' v H') : WA X es σ H Q' := fun pos pins s I =>
  thn (h pos pins s I) fun u s' ⟨v, H', I', r, z⟩ => ⟨v, H', I', r, q v H' z⟩
end

/-! ### what evaluates to what, nothing changed -/
/-- the slots' facts, at a heap that keeps all of Hz -/
structure En (Hz : Hp) (ρ : Rho) (σ : L2.St) (H : Hp) : Prop where
  s0 : Same Hz H
  env : Env ρ σ H
theorem En.same {Hz : Hp} {ρ : Rho} {σ : L2.St} {H H' : Hp} (E : En Hz ρ σ H) (s : Same H H') : En Hz ρ σ H' := ⟨E.s0.trans s, E.env.same s⟩
theorem Env.en {ρ : Rho} {σ : L2.St} {H : Hp} (E : Env ρ σ H) : En H ρ σ H := ⟨Same.refl H, E⟩
structure ED (X : Cx) (Hz : Hp) (ρ : Rho) (e : Expr) (P : Hp → V → Prop) : Prop where
  run : ∀ (σ : L2.St) (H : Hp) (Q : VK), En Hz ρ σ H → (∀ v H', Same H H' → P H' v → Q v H') → WE X e σ H Q
structure TD (X : Cx) (Hz : Hp) (ρ : Rho) (e : Expr) (b : Bool) : Prop where
  run : ∀ (σ : L2.St) (H : Hp) (Q : Bool → Hp → Prop), En Hz ρ σ H → (∀ H', Same H H' → Q b H') → WT X e σ H Q
/-- arguments: each by what is known of it; facts that no store changes -/
structure AD (X : Cx) (Hz : Hp) (ρ : Rho) (es : List Expr) (P : Hp → List V → Prop) : Prop where
  run : ∀ (σ : L2.St) (H : Hp) (Q : List V → Hp → Prop), En Hz ρ σ H → (∀ vs H', Same H H' → P H' vs → Q vs H') → WA X es σ H Q
abbrev ER (X : Cx) (Hz : Hp) (ρ : Rho) (e : Expr) (d : D) : Prop := ED X Hz ρ e (fun H v => Rep H d v)
/-- stays while all that is tracked stays -/
structure Stb {α : Type} (P : Hp → α → Prop) : Prop where
  st : ∀ {H H' : Hp} {v : α}, Same H H' → P H v → P H' v
theorem stb_R {d : D} : Stb (fun H v => Rep H d v) := ⟨fun s r => r.le (.of s)⟩
theorem stb_L {ds : List D} : Stb (fun H vs => RepL H ds vs) := ⟨fun s r => r.le (.of s)⟩
theorem stb_PP (P : PP) : Stb P.p := ⟨fun s r => P.le (.of s) r⟩
/-- a list of these -/
def Lst (ds : List D) (H : Hp) (v : V) : Prop := ∃ a vs, v = .ref a ∧ H a = some (.lst vs) ∧ RepL H ds vs
theorem stb_Lst {ds : List D} : Stb (Lst ds) := ⟨fun s ⟨a, vs, e, h, r⟩ => ⟨a, vs, e, s _ _ h, r.le (.of s)⟩⟩
end K31
namespace K31
open L2 PySem PySem.Spec PyProof.Rows
/-- the context of a body or a block: nothing handled, no name twice, room -/
structure GX (X : Cx) (k : Nat) : Prop where
  calm : X.calm = true
  nd : X.N.Nodup
  room : Room k X.A
theorem GX.mono {X : Cx} {j k : Nat} (g : GX X k) (h : j ≤ k) : GX X j := ⟨g.calm, g.nd, g.room.mono h⟩
theorem GX.hu {X : Cx} {k : Nat} (g : GX X k) : X.A.units + 1 < cLine := hu_of g.room
theorem GX.hu0 {X : Cx} {k : Nat} (g : GX X k) : X.A.units < cLine := g.room.units0
theorem GX.hu64 {X : Cx} {k : Nat} (g : GX X k) : X.A.units + 64 < cLine := g.room.units
theorem GX.hu65 {X : Cx} {k : Nat} (g : GX X k) : X.A.units + 65 < cLine := by have := g.room.un; omega
section
variable {X : Cx} {Hz : Hp} {ρ : Rho} {a b c e : Expr} {es : List Expr} {pos : Pos} {k : Nat}
theorem ED.imp {P P' : Hp → V → Prop} (h : ED X Hz ρ e P) (i : ∀ H v, P H v → P' H v) : ED X Hz ρ e P' := ⟨fun σ H Q E q => h.run σ H Q E fun v H' s p => q v H' s (i H' v p)⟩
theorem ED.by {P : Hp → V → Prop} {t : TE} (h : PE X e t) (q : ∀ (σ : L2.St) (H : Hp) (Q : VK), En Hz ρ σ H → (∀ v H', Same H H' → P H' v → Q v H') → t σ H Q) : ED X Hz ρ e P := ⟨fun σ H Q E z => .by h (q σ H Q E z)⟩
theorem TD.by {b : Bool} {t : TT} (h : PT X e t) (q : ∀ (σ : L2.St) (H : Hp) (Q : Bool → Hp → Prop), En Hz ρ σ H → (∀ H', Same H H' → Q b H') → t σ H Q) : TD X Hz ρ e b := ⟨fun σ H Q E z => .by h (q σ H Q E z)⟩
theorem TD.is {b b' : Bool} (h : TD X Hz ρ e b) (q : b = b') : TD X Hz ρ e b' := q ▸ h
theorem ER.is {d d' : D} (h : ER X Hz ρ e d) (q : d = d') : ER X Hz ρ e d' := q ▸ h
theorem ED.pp {P : PP} (h : ED X Hz ρ e P.p) {P' : PP} (q : P = P') : ED X Hz ρ e P'.p := q ▸ h
/-! ### names, constants -/
theorem ed_var (i : Nat) {P : PP} {x : Str} (hρ : ρ[i]? = some (some P)) (hN : X.N[i]? = some x := by rfl) (hv : Vis X.env.scope x := by first | exact Or.inl rfl | exact Or.inr (Or.inl rfl) | exact Or.inr (Or.inr rfl))
    (hd : (x == ("__debug__" : Str)) = false := by decide) (hcd : (x == ("__classdict__" : Str)) = false := by decide) : ED X Hz ρ (.Name x pos) P.p := by
  refine .by (pe_var hN hv hd hcd) fun σ H Q E q => ?_
  obtain ⟨v, e, p⟩ := E.env.at_ i P hρ
  exact ⟨v, e, q v H (Same.refl H) p⟩
theorem er_var (i : Nat) {d : D} {x : Str} (hρ : ρ[i]? = some (some (R d))) (hN : X.N[i]? = some x := by rfl) (hv : Vis X.env.scope x := by first | exact Or.inl rfl | exact Or.inr (Or.inl rfl) | exact Or.inr (Or.inr rfl))
    (hd : (x == ("__debug__" : Str)) = false := by decide) (hcd : (x == ("__classdict__" : Str)) = false := by decide) : ER X Hz ρ (.Name x pos) d := ed_var i hρ hN hv hd hcd
theorem er_int {i : Int} {j : Nat} : ER X Hz ρ (.Constant (.int i) j pos) (.int i) := .by pe_int fun σ H Q E q => q _ _ (Same.refl H) (.int i)
theorem er_str {i : Str} {j : Nat} : ER X Hz ρ (.Constant (.str i) j pos) (.str i) := .by pe_str fun σ H Q E q => q _ _ (Same.refl H) (.str i)
theorem er_bl {i : Bool} {j : Nat} : ER X Hz ρ (.Constant (.bool i) j pos) (.bl i) := .by pe_bl fun σ H Q E q => q _ _ (Same.refl H) (.bl i)
theorem er_non {j : Nat} : ER X Hz ρ (.Constant .none j pos) .non := .by pe_non fun σ H Q E q => q _ _ (Same.refl H) .non
theorem er_gint {x : Str} {i : Int} (hg : Gl X x) (hm : ∃ t, X.mg x = some (.int i t)) (hd : (x == ("__debug__" : Str)) = false := by decide) : ER X Hz ρ (.Name x pos) (.int i) := by
  obtain ⟨t, hm⟩ := hm
  exact .by (pe_glob hg hm (v := .int i) ⟨t, rfl⟩ hd) fun σ H Q E q => q _ _ (Same.refl H) (.int i)
theorem er_gstr {x i : Str} (hg : Gl X x) (hm : ∃ t, X.mg x = some (.str i t)) (hd : (x == ("__debug__" : Str)) = false := by decide) : ER X Hz ρ (.Name x pos) (.str i) := by
  obtain ⟨t, hm⟩ := hm
  exact .by (pe_glob hg hm (v := .str i) ⟨t, rfl⟩ hd) fun σ H Q E q => q _ _ (Same.refl H) (.str i)
/-! ### two places -/
theorem ed_op {op : Operator} {r : R2} {P P' : Hp → V → Prop} {P'' : Hp → V → Prop} (ho : OpR X (binaryOp op) r) (sP : Stb P) (ha : ED X Hz ρ a P) (hb : ED X Hz ρ b P')
    (h : ∀ x y H, P H x → P' H y → ∀ Q : VK, (∀ z H', Same H H' → P'' H' z → Q z H') → r x y H Q) : ED X Hz ρ (.BinOp a op b pos) P'' := by
  refine .by (pe_op ho pe_W pe_W) fun σ H Q E q => ?_
  refine ha.run σ H _ E fun x H1 s1 p1 => ?_
  refine hb.run σ H1 _ (E.same s1) fun y H2 s2 p2 => ?_
  exact h x y H2 (sP.st s2 p1) p2 Q fun z H3 s3 p3 => q z H3 ((s1.trans s2).trans s3) p3
theorem td_op {op : CmpOp} {r : R2} {P P' : Hp → V → Prop} {k : Bool} (ho : OpR X (compareOp op) r) (hm : behindInMarks op b = false) (sP : Stb P) (ha : ED X Hz ρ a P) (hb : ED X Hz ρ b P')
    (h : ∀ x y H, P H x → P' H y → ∀ Q : VK, Q (.bl k) H → r x y H Q) : TD X Hz ρ (.Compare a [op] [b] pos) k := by
  refine .by (pt_cmpR ho pe_W pe_W hm) fun σ H Q E q => ?_
  refine ha.run σ H _ E fun x H1 s1 p1 => ?_
  refine hb.run σ H1 _ (E.same s1) fun y H2 s2 p2 => ?_
  exact h x y H2 (sP.st s2 p1) p2 _ ⟨k, rfl, q H2 (s1.trans s2)⟩
theorem er_cmp {op : CmpOp} {r : R2} {P P' : Hp → V → Prop} {k : Bool} (ho : OpR X (compareOp op) r) (hm : behindInMarks op b = false) (sP : Stb P) (ha : ED X Hz ρ a P) (hb : ED X Hz ρ b P')
    (h : ∀ x y H, P H x → P' H y → ∀ Q : VK, Q (.bl k) H → r x y H Q) : ER X Hz ρ (.Compare a [op] [b] pos) (.bl k) := by
  refine .by (pe_cmpR ho pe_W pe_W hm) fun σ H Q E q => ?_
  refine ha.run σ H _ E fun x H1 s1 p1 => ?_
  refine hb.run σ H1 _ (E.same s1) fun y H2 s2 p2 => ?_
  exact h x y H2 (sP.st s2 p1) p2 _ (q _ H2 (s1.trans s2) (.bl k))
theorem er_op {op : Operator} {r : R2} {d d' d'' : D} (ho : OpR X (binaryOp op) r) (ha : ER X Hz ρ a d) (hb : ER X Hz ρ b d')
    (h : ∀ x y H, Rep H d x → Rep H d' y → ∀ Q : VK, (∀ z H', Same H H' → Rep H' d'' z → Q z H') → r x y H Q) : ER X Hz ρ (.BinOp a op b pos) d'' := ed_op ho stb_R ha hb h
theorem td_opR {op : CmpOp} {r : R2} {d d' : D} {k : Bool} (ho : OpR X (compareOp op) r) (hm : behindInMarks op b = false) (ha : ER X Hz ρ a d) (hb : ER X Hz ρ b d')
    (h : ∀ x y H, Rep H d x → Rep H d' y → ∀ Q : VK, Q (.bl k) H → r x y H Q) : TD X Hz ρ (.Compare a [op] [b] pos) k := td_op ho hm stb_R ha hb h
theorem er_cmpR {op : CmpOp} {r : R2} {d d' : D} {k : Bool} (ho : OpR X (compareOp op) r) (hm : behindInMarks op b = false) (ha : ER X Hz ρ a d) (hb : ER X Hz ρ b d')
    (h : ∀ x y H, Rep H d x → Rep H d' y → ∀ Q : VK, Q (.bl k) H → r x y H Q) : ER X Hz ρ (.Compare a [op] [b] pos) (.bl k) := er_cmp ho hm stb_R ha hb h
theorem I0 {g : Int → Int → V} {i j : Int} {x y : V} {H : Hp} (hx : Rep H (.int i) x) (hy : Rep H (.int j) y) {Q : VK} (q : Q (g i j) H) : rI0 g x y H Q := by
  cases hx; cases hy; exact ⟨i, j, rfl, rfl, q⟩
theorem I1 {C : Int → Int → Prop} {g : Int → Int → V} {i j : Int} {x y : V} {H : Hp} (hc : C i j) (hx : Rep H (.int i) x) (hy : Rep H (.int j) y) {Q : VK} (q : Q (g i j) H) : rI C g x y H Q := by
  cases hx; cases hy; exact ⟨i, j, rfl, rfl, hc, q⟩
theorem er_add {i j : Int} (ha : ER X Hz ρ a (.int i)) (hb : ER X Hz ρ b (.int j)) : ER X Hz ρ (.BinOp a .Add b pos) (.int (i + j)) := er_op op_add ha hb fun _ _ H p1 p2 Q q => by cases p1; cases p2; exact ⟨_, _, rfl, rfl, q _ H (Same.refl H) (.int _)⟩
theorem er_sub {i j : Int} (ha : ER X Hz ρ a (.int i)) (hb : ER X Hz ρ b (.int j)) : ER X Hz ρ (.BinOp a .Sub b pos) (.int (i - j)) := er_op op_sub ha hb fun _ _ H p1 p2 Q q => by cases p1; cases p2; exact ⟨_, _, rfl, rfl, q _ H (Same.refl H) (.int _)⟩
theorem er_mul {i j : Int} (hc : CMul i j) (ha : ER X Hz ρ a (.int i)) (hb : ER X Hz ρ b (.int j)) : ER X Hz ρ (.BinOp a .Mult b pos) (.int (i * j)) := er_op op_mul ha hb fun _ _ H p1 p2 Q q => by cases p1; cases p2; exact ⟨_, _, rfl, rfl, hc, q _ H (Same.refl H) (.int _)⟩
theorem er_mod {i j : Int} (hc : 0 < j) (ha : ER X Hz ρ a (.int i)) (hb : ER X Hz ρ b (.int j)) : ER X Hz ρ (.BinOp a .Mod b pos) (.int (i % j)) := er_op op_mod ha hb fun _ _ H p1 p2 Q q => by cases p1; cases p2; exact ⟨_, _, rfl, rfl, hc, q _ H (Same.refl H) (.int _)⟩
theorem er_div {i j : Int} (hc : CDiv i j) (ha : ER X Hz ρ a (.int i)) (hb : ER X Hz ρ b (.int j)) : ER X Hz ρ (.BinOp a .FloorDiv b pos) (.int (i / j)) := er_op op_fdiv ha hb fun _ _ H p1 p2 Q q => by cases p1; cases p2; exact ⟨_, _, rfl, rfl, hc, q _ H (Same.refl H) (.int _)⟩
theorem er_pow {i j : Int} (hc : CPow i j) (ha : ER X Hz ρ a (.int i)) (hb : ER X Hz ρ b (.int j)) : ER X Hz ρ (.BinOp a .Pow b pos) (.int (i ^ j.toNat)) := er_op op_pow ha hb fun _ _ H p1 p2 Q q => by cases p1; cases p2; exact ⟨_, _, rfl, rfl, hc, q _ H (Same.refl H) (.int _)⟩
theorem td_lt {i j : Int} (ha : ER X Hz ρ a (.int i)) (hb : ER X Hz ρ b (.int j)) : TD X Hz ρ (.Compare a [.Lt] [b] pos) (decide (i < j)) := td_opR op_lt (nomark _) ha hb fun _ _ H p1 p2 Q q => by cases p1; cases p2; exact ⟨_, _, rfl, rfl, q⟩
theorem td_le {i j : Int} (ha : ER X Hz ρ a (.int i)) (hb : ER X Hz ρ b (.int j)) : TD X Hz ρ (.Compare a [.LtE] [b] pos) (decide (i ≤ j)) := td_opR op_le (nomark _) ha hb fun _ _ H p1 p2 Q q => by cases p1; cases p2; exact ⟨_, _, rfl, rfl, q⟩
theorem td_gt {i j : Int} (ha : ER X Hz ρ a (.int i)) (hb : ER X Hz ρ b (.int j)) : TD X Hz ρ (.Compare a [.Gt] [b] pos) (decide (j < i)) := td_opR op_gt (nomark _) ha hb fun _ _ H p1 p2 Q q => by cases p1; cases p2; exact ⟨_, _, rfl, rfl, q⟩
theorem td_ge {i j : Int} (ha : ER X Hz ρ a (.int i)) (hb : ER X Hz ρ b (.int j)) : TD X Hz ρ (.Compare a [.GtE] [b] pos) (decide (j ≤ i)) := td_opR op_ge (nomark _) ha hb fun _ _ H p1 p2 Q q => by cases p1; cases p2; exact ⟨_, _, rfl, rfl, q⟩
theorem er_lt {i j : Int} (ha : ER X Hz ρ a (.int i)) (hb : ER X Hz ρ b (.int j)) : ER X Hz ρ (.Compare a [.Lt] [b] pos) (.bl (decide (i < j))) := er_cmpR op_lt (nomark _) ha hb fun _ _ H p1 p2 Q q => by cases p1; cases p2; exact ⟨_, _, rfl, rfl, q⟩
theorem er_le {i j : Int} (ha : ER X Hz ρ a (.int i)) (hb : ER X Hz ρ b (.int j)) : ER X Hz ρ (.Compare a [.LtE] [b] pos) (.bl (decide (i ≤ j))) := er_cmpR op_le (nomark _) ha hb fun _ _ H p1 p2 Q q => by cases p1; cases p2; exact ⟨_, _, rfl, rfl, q⟩
theorem er_gt {i j : Int} (ha : ER X Hz ρ a (.int i)) (hb : ER X Hz ρ b (.int j)) : ER X Hz ρ (.Compare a [.Gt] [b] pos) (.bl (decide (j < i))) := er_cmpR op_gt (nomark _) ha hb fun _ _ H p1 p2 Q q => by cases p1; cases p2; exact ⟨_, _, rfl, rfl, q⟩
theorem er_ge {i j : Int} (ha : ER X Hz ρ a (.int i)) (hb : ER X Hz ρ b (.int j)) : ER X Hz ρ (.Compare a [.GtE] [b] pos) (.bl (decide (j ≤ i))) := er_cmpR op_ge (nomark _) ha hb fun _ _ H p1 p2 Q q => by cases p1; cases p2; exact ⟨_, _, rfl, rfl, q⟩
theorem rEq_i {i j : Int} {x y : V} {H : Hp} (hx : Rep H (.int i) x) (hy : Rep H (.int j) y) {Q : VK} (q : Q (.bl (decide (i = j))) H) : rEq x y H Q := by
  cases hx; cases hy
  refine ⟨rfl, ?_⟩
  have e : decide (V.int i = V.int j) = decide (i = j) := by rw [decide_eq_decide]; exact ⟨fun h => by injection h, fun h => by rw [h]⟩
  rw [e]; exact q
theorem rNe_i {i j : Int} {x y : V} {H : Hp} (hx : Rep H (.int i) x) (hy : Rep H (.int j) y) {Q : VK} (q : Q (.bl (!decide (i = j))) H) : rNe x y H Q := by
  cases hx; cases hy
  refine ⟨rfl, ?_⟩
  have e : decide (V.int i = V.int j) = decide (i = j) := by rw [decide_eq_decide]; exact ⟨fun h => by injection h, fun h => by rw [h]⟩
  rw [e]; exact q
theorem rEq_s {i j : Str} {x y : V} {H : Hp} (hx : Rep H (.str i) x) (hy : Rep H (.str j) y) {Q : VK} (q : Q (.bl (decide (i = j))) H) : rEq x y H Q := by
  cases hx; cases hy
  refine ⟨rfl, ?_⟩
  have e : decide (V.str i = V.str j) = decide (i = j) := by rw [decide_eq_decide]; exact ⟨fun h => by injection h, fun h => by rw [h]⟩
  rw [e]; exact q
theorem rNe_s {i j : Str} {x y : V} {H : Hp} (hx : Rep H (.str i) x) (hy : Rep H (.str j) y) {Q : VK} (q : Q (.bl (!decide (i = j))) H) : rNe x y H Q := by
  cases hx; cases hy
  refine ⟨rfl, ?_⟩
  have e : decide (V.str i = V.str j) = decide (i = j) := by rw [decide_eq_decide]; exact ⟨fun h => by injection h, fun h => by rw [h]⟩
  rw [e]; exact q
theorem td_eqI {i j : Int} (ha : ER X Hz ρ a (.int i)) (hb : ER X Hz ρ b (.int j)) : TD X Hz ρ (.Compare a [.Eq] [b] pos) (decide (i = j)) := td_opR op_eq (nomark _) ha hb fun _ _ H p1 p2 Q q => rEq_i p1 p2 q
theorem td_neI {i j : Int} (ha : ER X Hz ρ a (.int i)) (hb : ER X Hz ρ b (.int j)) : TD X Hz ρ (.Compare a [.NotEq] [b] pos) (!decide (i = j)) := td_opR op_ne (nomark _) ha hb fun _ _ H p1 p2 Q q => rNe_i p1 p2 q
theorem td_eqS {i j : Str} (ha : ER X Hz ρ a (.str i)) (hb : ER X Hz ρ b (.str j)) : TD X Hz ρ (.Compare a [.Eq] [b] pos) (decide (i = j)) := td_opR op_eq (nomark _) ha hb fun _ _ H p1 p2 Q q => rEq_s p1 p2 q
theorem td_neS {i j : Str} (ha : ER X Hz ρ a (.str i)) (hb : ER X Hz ρ b (.str j)) : TD X Hz ρ (.Compare a [.NotEq] [b] pos) (!decide (i = j)) := td_opR op_ne (nomark _) ha hb fun _ _ H p1 p2 Q q => rNe_s p1 p2 q
theorem er_eqI {i j : Int} (ha : ER X Hz ρ a (.int i)) (hb : ER X Hz ρ b (.int j)) : ER X Hz ρ (.Compare a [.Eq] [b] pos) (.bl (decide (i = j))) := er_cmpR op_eq (nomark _) ha hb fun _ _ H p1 p2 Q q => rEq_i p1 p2 q
theorem er_eqS {i j : Str} (ha : ER X Hz ρ a (.str i)) (hb : ER X Hz ρ b (.str j)) : ER X Hz ρ (.Compare a [.Eq] [b] pos) (.bl (decide (i = j))) := er_cmpR op_eq (nomark _) ha hb fun _ _ H p1 p2 Q q => rEq_s p1 p2 q
/-! ### None -/
def D.isNon : D → Bool
  | .non => true
  | _ => false
def D.isAny : D → Bool
  | .any => true
  | .obj _ => true
  | _ => false
theorem Rep.non_iff {H : Hp} {d : D} {v : V} (r : Rep H d v) (h : d.isAny = false) : decide (v = .non) = d.isNon := by
  cases r <;> first | rfl | cases h
theorem td_isN {d : D} (h : d.isAny = false) {j : Nat} {p2 : Pos} (ha : ER X Hz ρ a d) : TD X Hz ρ (.Compare a [.Is] [.Constant .none j p2] pos) d.isNon :=
  td_opR op_isN (nomark _) ha er_non fun _ _ H p1 p2 Q q => by cases p2; exact ⟨rfl, by rw [p1.non_iff h]; exact q⟩
theorem td_notN {d : D} (h : d.isAny = false) {j : Nat} {p2 : Pos} (ha : ER X Hz ρ a d) : TD X Hz ρ (.Compare a [.IsNot] [.Constant .none j p2] pos) (!d.isNon) :=
  td_opR op_notN (nomark _) ha er_non fun _ _ H p1 p2 Q q => by cases p2; exact ⟨rfl, by rw [p1.non_iff h]; exact q⟩
theorem er_isN {d : D} (h : d.isAny = false) {j : Nat} {p2 : Pos} (ha : ER X Hz ρ a d) : ER X Hz ρ (.Compare a [.Is] [.Constant .none j p2] pos) (.bl d.isNon) :=
  er_cmpR op_isN (nomark _) ha er_non fun _ _ H p1 p2 Q q => by cases p2; exact ⟨rfl, by rw [p1.non_iff h]; exact q⟩
/-! ### tests -/
theorem td_val {k : Bool} (h : ER X Hz ρ e (.bl k)) (he : ∀ whole, isTrue e X.env whole = (do let v ← whole; standAt e.pos; holding [v] (truthy v)) := by intro _; rfl) : TD X Hz ρ e k := by
  refine .by (pt_val pe_W he) fun σ H Q E q => ?_
  refine h.run σ H _ E fun v H1 s1 p => ?_
  cases p
  exact ⟨k, rfl, q H1 s1⟩
theorem td_not {k : Bool} (h : TD X Hz ρ a k) : TD X Hz ρ (.UnaryOp .Not a pos) (!k) := .by (pt_not pt_W) fun σ H Q E q => h.run σ H _ E fun H1 s1 => q H1 s1
theorem td_and {k l : Bool} (ha : TD X Hz ρ a k) (hb : k = true → TD X Hz ρ b l) : TD X Hz ρ (.BoolOp .And [a, b] pos) (k && l) := by
  refine .by (PW.pt (pw_and pt_W (pw_and1 pt_W))) fun σ H Q E q => ?_
  refine ha.run σ H _ E fun H1 s1 => ?_
  cases k with
  | true => exact iteT ((hb rfl).run σ H1 _ (E.same s1) fun H2 s2 => q H2 (s1.trans s2))
  | false => exact iteF (q H1 s1)
theorem td_and3 {k l m : Bool} (ha : TD X Hz ρ a k) (hb : k = true → TD X Hz ρ b l) (hc : k = true → l = true → TD X Hz ρ c m) : TD X Hz ρ (.BoolOp .And [a, b, c] pos) (k && (l && m)) := by
  refine .by (PW.pt (pw_and pt_W (pw_and pt_W (pw_and1 pt_W)))) fun σ H Q E q => ?_
  refine ha.run σ H _ E fun H1 s1 => ?_
  cases k with
  | false => exact iteF (q H1 s1)
  | true =>
    refine iteT ((hb rfl).run σ H1 _ (E.same s1) fun H2 s2 => ?_)
    cases l with
    | false => exact iteF (q H2 (s1.trans s2))
    | true => exact iteT ((hc rfl rfl).run σ H2 _ (E.same (s1.trans s2)) fun H3 s3 => q H3 ((s1.trans s2).trans s3))
theorem td_or {k l : Bool} (ha : TD X Hz ρ a k) (hb : k = false → TD X Hz ρ b l) : TD X Hz ρ (.BoolOp .Or [a, b] pos) (k || l) := by
  refine .by (PW.pt (pw_or pt_W (pw_or1 pt_W))) fun σ H Q E q => ?_
  refine ha.run σ H _ E fun H1 s1 => ?_
  cases k with
  | true => exact iteT (q H1 s1)
  | false => exact iteF ((hb rfl).run σ H1 _ (E.same s1) fun H2 s2 => q H2 (s1.trans s2))
theorem td_or3 {k l m : Bool} (ha : TD X Hz ρ a k) (hb : k = false → TD X Hz ρ b l) (hc : k = false → l = false → TD X Hz ρ c m) : TD X Hz ρ (.BoolOp .Or [a, b, c] pos) (k || (l || m)) := by
  refine .by (PW.pt (pw_or pt_W (pw_or pt_W (pw_or1 pt_W)))) fun σ H Q E q => ?_
  refine ha.run σ H _ E fun H1 s1 => ?_
  cases k with
  | true => exact iteT (q H1 s1)
  | false =>
    refine iteF ((hb rfl).run σ H1 _ (E.same s1) fun H2 s2 => ?_)
    cases l with
    | true => exact iteT (q H2 (s1.trans s2))
    | false => exact iteF ((hc rfl rfl).run σ H2 _ (E.same (s1.trans s2)) fun H3 s3 => q H3 ((s1.trans s2).trans s3))
theorem er_and {k l : Bool} (ha : ER X Hz ρ a (.bl k)) (hb : k = true → ER X Hz ρ b (.bl l)) : ER X Hz ρ (.BoolOp .And [a, b] pos) (.bl (k && l)) := by
  refine .by (pe_and pe_W (pe_one pe_W)) fun σ H Q E q => ?_
  refine ha.run σ H _ E fun v H1 s1 p => ?_
  cases p
  refine ⟨k, rfl, ?_⟩
  cases k with
  | true => exact iteT ((hb rfl).run σ H1 _ (E.same s1) fun v H2 s2 p => q v H2 (s1.trans s2) p)
  | false => exact iteF (q _ H1 s1 (.bl false))
theorem er_and3 {k l m : Bool} (ha : ER X Hz ρ a (.bl k)) (hb : k = true → ER X Hz ρ b (.bl l)) (hc : k = true → l = true → ER X Hz ρ c (.bl m)) : ER X Hz ρ (.BoolOp .And [a, b, c] pos) (.bl (k && (l && m))) := by
  refine .by (pe_and pe_W (pe_and pe_W (pe_one pe_W))) fun σ H Q E q => ?_
  refine ha.run σ H _ E fun v H1 s1 p => ?_
  cases p
  refine ⟨k, rfl, ?_⟩
  cases k with
  | false => exact iteF (q _ H1 s1 (.bl false))
  | true =>
    refine iteT ((hb rfl).run σ H1 _ (E.same s1) fun v H2 s2 p => ?_)
    cases p
    refine ⟨l, rfl, ?_⟩
    cases l with
    | false => exact iteF (q _ H2 (s1.trans s2) (.bl false))
    | true => exact iteT ((hc rfl rfl).run σ H2 _ (E.same (s1.trans s2)) fun v H3 s3 p => q v H3 ((s1.trans s2).trans s3) p)
theorem er_or {k l : Bool} (ha : ER X Hz ρ a (.bl k)) (hb : k = false → ER X Hz ρ b (.bl l)) : ER X Hz ρ (.BoolOp .Or [a, b] pos) (.bl (k || l)) := by
  refine .by (pe_or pe_W (pe_one pe_W)) fun σ H Q E q => ?_
  refine ha.run σ H _ E fun v H1 s1 p => ?_
  cases p
  refine ⟨k, rfl, ?_⟩
  cases k with
  | true => exact iteT (q _ H1 s1 (.bl true))
  | false => exact iteF ((hb rfl).run σ H1 _ (E.same s1) fun v H2 s2 p => q v H2 (s1.trans s2) p)
theorem er_not {k : Bool} (h : ER X Hz ρ a (.bl k)) : ER X Hz ρ (.UnaryOp .Not a pos) (.bl (!k)) := .by (pe_not pe_W) fun σ H Q E q => h.run σ H _ E fun v H1 s1 p => by cases p; exact ⟨k, rfl, q _ H1 s1 (.bl _)⟩
theorem ed_if {k : Bool} {P : Hp → V → Prop} (hc : TD X Hz ρ c k) (ha : k = true → ED X Hz ρ a P) (hb : k = false → ED X Hz ρ b P) : ED X Hz ρ (.IfExp c a b pos) P := by
  refine .by (pe_ifExp pt_W pe_W pe_W) fun σ H Q E q => ?_
  refine hc.run σ H _ E fun H1 s1 => ?_
  cases k with
  | true => exact iteT ((ha rfl).run σ H1 _ (E.same s1) fun v H2 s2 p => q v H2 (s1.trans s2) p)
  | false => exact iteF ((hb rfl).run σ H1 _ (E.same s1) fun v H2 s2 p => q v H2 (s1.trans s2) p)
theorem er_if {k : Bool} {d d' : D} (hc : TD X Hz ρ c k) (ha : k = true → ER X Hz ρ a d) (hb : k = false → ER X Hz ρ b d') : ER X Hz ρ (.IfExp c a b pos) (if k = true then d else d') := by
  refine ed_if hc (fun h => ?_) fun h => ?_
  · subst h; exact ha rfl
  · subst h; exact hb rfl
/-! ### arguments, displays -/
theorem ad_nil : AD X Hz ρ [] (fun H vs => RepL H [] vs) := ⟨fun σ H Q E q => .by pa_nil (q [] H (Same.refl H) .nil)⟩
theorem ad_cons {d : D} {ds : List D} (ha : ER X Hz ρ e d) (hr : AD X Hz ρ es (fun H vs => RepL H ds vs)) (hs : starEach (e :: es) X.env = (false, eval e X.env) :: starEach es X.env := by rfl) : AD X Hz ρ (e :: es) (fun H vs => RepL H (d :: ds) vs) := by
  refine ⟨fun σ H Q E q => .by (pa_cons pe_W pa_W hs) ?_⟩
  refine ha.run σ H _ E fun x H1 s1 p1 => ?_
  exact hr.run σ H1 _ (E.same s1) fun vs H2 s2 p2 => q _ H2 (s1.trans s2) (.cons (stb_R.st s2 p1) p2)
/-- facts of each in turn -/
def Ps : List (Hp → V → Prop) → Hp → List V → Prop
  | [], _, vs => vs = []
  | P :: Pr, H, vs => ∃ v r, vs = v :: r ∧ P H v ∧ Ps Pr H r
theorem stb_Ps : ∀ {L : List (Hp → V → Prop)}, (∀ P ∈ L, Stb P) → Stb (Ps L)
  | [], _ => ⟨fun _ h => h⟩
  | P :: L, h => ⟨fun s ⟨v, r, e, p, q⟩ => ⟨v, r, e, (h P List.mem_cons_self).st s p, (stb_Ps (fun P' hp => h P' (List.mem_cons_of_mem _ hp))).st s q⟩⟩
theorem ap_nil : AD X Hz ρ [] (Ps []) := ⟨fun σ H Q E q => .by pa_nil (q [] H (Same.refl H) rfl)⟩
theorem ap_cons {P : Hp → V → Prop} {L : List (Hp → V → Prop)} (sP : Stb P) (ha : ED X Hz ρ e P) (hr : AD X Hz ρ es (Ps L)) (hs : starEach (e :: es) X.env = (false, eval e X.env) :: starEach es X.env := by rfl) : AD X Hz ρ (e :: es) (Ps (P :: L)) := by
  refine ⟨fun σ H Q E q => .by (pa_cons pe_W pa_W hs) ?_⟩
  refine ha.run σ H _ E fun x H1 s1 p1 => ?_
  exact hr.run σ H1 _ (E.same s1) fun vs H2 s2 p2 => q _ H2 (s1.trans s2) ⟨x, vs, rfl, sP.st s2 p1, p2⟩
theorem er_tup {ds : List D} {x1 : Nat} (h : AD X Hz ρ es (fun H vs => RepL H ds vs)) (hl : ds.length ≤ 1000 := by decide) : ER X Hz ρ (.Tuple es x1 pos) (.tup ds) := by
  refine .by (pe_tup pa_W) fun σ H Q E q => ?_
  refine h.run σ H _ E fun vs H1 s1 p1 => ⟨?_, fun p hp => ?_⟩
  · rw [← p1.length]; exact Nat.le_of_lt (small1000 hl)
  · exact q _ _ (s1.trans (same_upd hp)) (.tup upd_same (p1.le (.of (same_upd hp))))
theorem ed_lst {ds : List D} (h : AD X Hz ρ es (fun H vs => RepL H ds vs)) (hl : ds.length ≤ 1000 := by decide) : ED X Hz ρ (.List es pos) (Lst ds) := by
  refine .by (pe_lst pa_W) fun σ H Q E q => ?_
  refine h.run σ H _ E fun vs H1 s1 p1 => ⟨?_, fun p hp => ?_⟩
  · rw [← p1.length]; exact Nat.le_of_lt (small1000 hl)
  · exact q _ _ (s1.trans (same_upd hp)) ⟨p, vs, rfl, upd_same, p1.le (.of (same_upd hp))⟩
/-! ### subscripts -/
theorem atI_map {α β : Type} {R : α → β → Prop} {xs : List α} {ys : List β} (hl : xs.length = ys.length) (h : ∀ (i : Nat) x, xs[i]? = some x → ∃ y, ys[i]? = some y ∧ R x y) {i : Int} {x : α} (e : atI xs i = some x) : ∃ y, atI ys i = some y ∧ R x y := by
  unfold atI at e ⊢
  rw [← hl]
  cases hj : ixN xs.length i with
  | none => rw [hj] at e; cases e
  | some j => rw [hj] at e; exact h j x e
theorem er_ixt {ds : List D} {i : Int} {d : D} (ha : ER X Hz ρ a (.tup ds)) (hb : ER X Hz ρ b (.int i)) (h : atI ds i = some d) (hs : PlainIx b := by exact fun _ _ => rfl) : ER X Hz ρ (.Subscript a b pos) d := by
  refine .by (pe_ix ix_tup pe_W pe_W hs) fun σ H Q E q => ?_
  refine ha.run σ H _ E fun x H1 s1 p1 => ?_
  refine hb.run σ H1 _ (E.same s1) fun y H2 s2 p2 => ?_
  cases stb_R.st s2 p1 with
  | tup h1 r =>
    cases p2
    obtain ⟨v, hv, rv⟩ := atI_map r.length (fun i x e => r.get e) h
    exact ⟨_, _, i, v, rfl, rfl, SqT.of h1, hv, q v H2 (s1.trans s2) rv⟩
theorem er_ixs {s : Str} {i : Int} {cc : Nat} (ha : ER X Hz ρ a (.str s)) (hb : ER X Hz ρ b (.int i)) (hl : s.length ≤ sizeLine) (h : atI s.cps.toList i = some cc) (hs : PlainIx b := by exact fun _ _ => rfl) : ER X Hz ρ (.Subscript a b pos) (.str ⟨#[cc]⟩) := by
  refine .by (pe_ix ix_str pe_W pe_W hs) fun σ H Q E q => ?_
  refine ha.run σ H _ E fun x H1 s1 p1 => ?_
  refine hb.run σ H1 _ (E.same s1) fun y H2 s2 p2 => ?_
  cases p1; cases p2
  exact ⟨s, i, cc, rfl, rfl, hl, h, q _ H2 (s1.trans s2) (.str _)⟩
/-- parts of a slice -/
structure OD (X : Cx) (Hz : Hp) (ρ : Rho) (e : Option Expr) (o : Option Int) : Prop where
  run : ∀ (σ : L2.St) (H : Hp) (pins : List (Addr × Obj)) (s : Shared) (Q : Option Int → Hp → Prop), En Hz ρ σ H → Inv X pins σ H s → (∀ H', Same H H' → Q o H') → wpAny (model X.prog X.w) X.A (evalPart e X.env) (fun u s' => ∃ o H', Inv X pins σ H' s' ∧ IsPart u o ∧ Q o H') X.xe s
theorem od_none : OD X Hz ρ none none := ⟨fun σ H pins s Q E I q => po_none.run pins s σ H Q I (q H (Same.refl H))⟩
theorem od_some {i : Int} (h : ER X Hz ρ e (.int i)) : OD X Hz ρ (some e) (some i) := ⟨fun σ H pins s Q E I q =>
  (po_some pe_W).run pins s σ H Q I (h.run σ H _ E fun v H1 s1 p => by cases p; exact ⟨i, rfl, q H1 s1⟩)⟩
def WO (X : Cx) (e : Option Expr) : TO := fun σ H Q => ∀ (pins : List (Addr × Obj)) (s : Shared), Inv X pins σ H s → wpAny (model X.prog X.w) X.A (evalPart e X.env) (fun u s' => ∃ o H', Inv X pins σ H' s' ∧ IsPart u o ∧ Q o H') X.xe s
theorem po_W {e : Option Expr} : PO X e (WO X e) := ⟨fun pins s σ H Q I h => h pins s I⟩
def cutD (ds : List D) (lo hi : Option Int) : List D := (ds.drop (HT.sIx ds.length 0 lo)).take (HT.sIx ds.length ds.length hi - HT.sIx ds.length 0 lo)
theorem RepL.cut {H : Hp} {ds : List D} {vs : List V} (r : RepL H ds vs) (lo hi : Option Int) : RepL H (cutD ds lo hi) (cutV vs lo hi) := by
  unfold cutD cutV
  rw [r.length]
  exact (r.drop _).take _
theorem cutV_whole {vs : List V} {lo hi : Option Int} (h : HT.sIx vs.length 0 lo = 0 ∧ HT.sIx vs.length vs.length hi = vs.length) : cutV vs lo hi = vs := by
  unfold cutV
  rw [h.1, h.2]; simp
theorem er_slt {ds : List D} {lo hi : Option Expr} {l h : Option Int} {p2 : Pos} (ha : ER X Hz ρ a (.tup ds)) (hl : OD X Hz ρ lo l) (hh : OD X Hz ρ hi h) : ER X Hz ρ (.Subscript a (.Slice lo hi none p2) pos) (.tup (cutD ds l h)) := by
  refine .by (pe_slice sl_tupA pe_W po_W po_W) fun σ H Q E q => ?_
  refine ha.run σ H _ E fun x H1 s1 p1 => ?_
  refine fun pins s I => hl.run σ H1 pins s _ (E.same s1) I fun H2 s2 => ?_
  refine fun pins s I => hh.run σ H2 pins s _ (E.same (s1.trans s2)) I fun H3 s3 => ?_
  have p3 : Rep H3 (.tup ds) x := stb_R.st (s2.trans s3) p1
  have s03 := (s1.trans s2).trans s3
  cases p3 with
  | tup h1 r =>
    refine ⟨_, _, rfl, SqT.of h1, fun w => ?_, fun w p hp => ?_⟩
    · refine q _ H3 s03 ?_
      have := r.cut l h
      rw [cutV_whole w] at this
      exact .tup h1 this
    · exact q _ _ (s03.trans (same_upd hp)) (.tup upd_same ((r.cut l h).le (.of (same_upd hp))))
theorem er_cat {ds es : List D} (hz : ds.length + es.length ≤ 100000) (ha : ER X Hz ρ a (.tup ds)) (hb : ER X Hz ρ b (.tup es)) : ER X Hz ρ (.BinOp a .Add b pos) (.tup (ds ++ es)) := by
  refine er_op op_catA ha hb fun x y H p1 p2 Q q => ?_
  cases p1 with
  | tup h1 r1 =>
    cases p2 with
    | tup h2 r2 =>
      have l1 := r1.length
      have l2 := r2.length
      have hs : (100000 : Nat) ≤ sizeLine := by decide
      refine ⟨_, _, _, _, rfl, rfl, SqT.of h1, SqT.of h2, by omega, fun e => ?_, fun _ e => ?_, fun _ _ p hp => ?_⟩
      · subst e; cases r1; exact q _ H (Same.refl H) (.tup h2 r2)
      · subst e; cases r2; rw [List.append_nil] at q; exact q _ H (Same.refl H) (.tup h1 r1)
      · exact q _ _ (same_upd hp) (.tup upd_same ((r1.append r2).le (.of (same_upd hp))))
/-! ### calls of built-ins -/
theorem ed_cb {id : String} {x : Str} {p : Pos} {r : List V → Hp → VK → Prop} {PA' : Hp → List V → Prop} {P : Hp → V → Prop} (hc : CallR X (.builtin id) r) (hm : X.mg x = none) (hv : bootBuiltins x = some (.builtin id)) (ha : AD X Hz ρ (e :: es) PA')
    (h : ∀ vs H, PA' H vs → ∀ Q : VK, (∀ z H', Same H H' → P H' z → Q z H') → r vs H Q) (hg : Gl X x := by rfl) (hn : x ≠ "__name__" := by decide) (hdb : (x == ("__debug__" : Str)) = false := by decide)
    (he : starEach (e :: es) X.env = (false, eval e X.env) :: starEach es X.env := by rfl) (hpl : (backTo pos (starEach es X.env)).any (·.1) = false := by rfl) : ED X Hz ρ (.Call (.Name x p) (e :: es) [] pos) P := by
  refine .by (pe_callB hc hg hm hv pa_W hn hdb he hpl) fun σ H Q E q => ?_
  exact ha.run σ H _ E fun vs H1 s1 p1 => h vs H1 p1 Q fun z H2 s2 p2 => q z H2 (s1.trans s2) p2
theorem ed_ct {T : String} {x : Str} {p : Pos} {r : List V → Hp → VK → Prop} {PA' : Hp → List V → Prop} {P : Hp → V → Prop} (hc : CallR X (.type T) r) (hm : X.mg x = none) (hv : bootBuiltins x = some (.type T)) (ha : AD X Hz ρ (e :: es) PA')
    (h : ∀ vs H, PA' H vs → ∀ Q : VK, (∀ z H', Same H H' → P H' z → Q z H') → r vs H Q) (hg : Gl X x := by rfl) (hn : x ≠ "__name__" := by decide) (hdb : (x == ("__debug__" : Str)) = false := by decide)
    (he : starEach (e :: es) X.env = (false, eval e X.env) :: starEach es X.env := by rfl) (hpl : (backTo pos (starEach es X.env)).any (·.1) = false := by rfl) : ED X Hz ρ (.Call (.Name x p) (e :: es) [] pos) P := by
  refine .by (pe_callTy hc hg hm hv pa_W hn hdb he hpl) fun σ H Q E q => ?_
  exact ha.run σ H _ E fun vs H1 s1 p1 => h vs H1 p1 Q fun z H2 s2 p2 => q z H2 (s1.trans s2) p2
end
end K31
namespace K31
open L2 PySem PySem.Spec PyProof.Rows
/-! ### heaps -/
def SameBut (l : Addr) (H H' : Hp) : Prop := ∀ a o, a ≠ l → H a = some o → H' a = some o
theorem SameBut.of {l : Addr} {H H' : Hp} (s : Same H H') : SameBut l H H' := fun a o _ h => s a o h
theorem SameBut.refl (l : Addr) (H : Hp) : SameBut l H H := fun _ _ _ h => h
theorem SameBut.trans {l : Addr} {H H1 H2 : Hp} (a : SameBut l H H1) (b : SameBut l H1 H2) : SameBut l H H2 := fun x o n h => b x o n (a x o n h)
theorem SameBut.upd {l : Addr} {H : Hp} {o : HO} : SameBut l H (L2.upd H l o) := fun a u n h => by rw [upd_ne n]; exact h
theorem SameBut.le {l : Addr} {H H' : Hp} {u : HO} (s : SameBut l H H') (h : H l = some u) (hi : Imm u = false) : Le H H' := fun a o ha hm => by
  refine s a o (fun e => ?_) ha
  subst e; rw [h] at ha; cases ha; rw [hi] at hm; cases hm
theorem SameBut.same {l : Addr} {H0 H H' : Hp} (s : SameBut l H H') (s0 : Same H0 H) (h : H0 l = none) : Same H0 H' := fun a o ha => s a o (fun e => by subst e; rw [h] at ha; cases ha) (s0 a o ha)
def LstAt (H : Hp) (l : Addr) (ds : List D) : Prop := ∃ vs, H l = some (.lst vs) ∧ RepL H ds vs
theorem LstAt.same {H H' : Hp} {l : Addr} {ds : List D} (h : LstAt H l ds) (s : Same H H') : LstAt H' l ds := let ⟨vs, e, r⟩ := h; ⟨vs, s _ _ e, r.le (.of s)⟩
theorem LstAt.but {H H' : Hp} {l m : Addr} {u : HO} {ds : List D} (h : LstAt H l ds) (s : SameBut m H H') (hm : H m = some u) (hi : Imm u = false) (n : l ≠ m) : LstAt H' l ds := let ⟨vs, e, r⟩ := h; ⟨vs, s _ _ n e, r.le (s.le hm hi)⟩
theorem LstAt.lst {H : Hp} {l : Addr} {ds : List D} (h : LstAt H l ds) : Lst ds H (.ref l) := let ⟨vs, e, r⟩ := h; ⟨l, vs, rfl, e, r⟩
theorem LstAt.le {H H' : Hp} {l : Addr} {ds : List D} (h : LstAt H l ds) (s : SameBut l H H') : Le H H' := let ⟨_, e, _⟩ := h; s.le e rfl
theorem LstAt.ne {H : Hp} {l : Addr} {ds : List D} (h : LstAt H l ds) {a : Addr} (ha : H a = none) : l ≠ a := by
  obtain ⟨vs, e, _⟩ := h
  intro z; subst z; rw [e] at ha; cases ha

section
variable {X : Cx} {ρ : Rho} {σ : L2.St} {H : Hp} {D' : Ends} {a b c e : Expr} {es : List Expr} {rest body : List Stmt} {pos : Pos} {k : Nat}
/-! ### statements -/
theorem s_nil (h : D'.nx σ H) : WSs X [] D' σ H := .by pss_nil h
theorem s_cons {st : Stmt} (h : WS X st { D' with nx := fun σ' H' => WSs X rest D' σ' H' } σ H) : WSs X (st :: rest) D' σ H := .by (pss_cons ps_W pss_W) h
theorem s_asg (i : Nat) {x : Str} {p' : Pos} {P : Hp → V → Prop} (G : GX X k) (E : Env ρ σ H) (he : ED X H ρ e P) (q : ∀ v H', Same H H' → P H' v → Env ρ σ H' → WSs X rest D' (σ.set i (some v)) H')
    (hi : X.N[i]? = some x := by rfl) (hx : Loc X.env.scope x := by first | exact .inl rfl | exact .inr rfl) (hs : swapsWith e (some (.Name x p')) pos.line X.env = pure false := by rfl)
    (hf : X.fn x = true ∨ X.env.scope.names.lookup x = some .local := by first | exact .inl rfl | exact .inr rfl) : WSs X (.Assign [.Name x p'] e pos :: rest) D' σ H := by
  refine s_cons (.by (ps_set G.nd hi hx pe_W hs hf) ?_)
  exact he.run σ H _ E.en fun v H' s p => q v H' s p (E.same s)
theorem s_set (i : Nat) {x : Str} {p' : Pos} {d : D} (G : GX X k) (E : Env ρ σ H) (he : ER X H ρ e d) (q : ∀ σ' H', Same H H' → Env (ρ.set i (some (R d))) σ' H' → WSs X rest D' σ' H')
    (hi : X.N[i]? = some x := by rfl) (hx : Loc X.env.scope x := by first | exact .inl rfl | exact .inr rfl) (hs : swapsWith e (some (.Name x p')) pos.line X.env = pure false := by rfl)
    (hf : X.fn x = true ∨ X.env.scope.names.lookup x = some .local := by first | exact .inl rfl | exact .inr rfl) : WSs X (.Assign [.Name x p'] e pos :: rest) D' σ H :=
  s_asg i G E he (fun v H' s p E' => q _ H' s (E'.set i (P := R d) p)) hi hx hs hf
/-- by what holds between -/
theorem s_mid (i : Nat) {x : Str} {p' : Pos} (G : GX X k) (M : V → Hp → Prop) (h : WE X e σ H M) (q : ∀ v H', M v H' → WSs X rest D' (σ.set i (some v)) H')
    (hi : X.N[i]? = some x := by rfl) (hx : Loc X.env.scope x := by first | exact .inl rfl | exact .inr rfl) (hs : swapsWith e (some (.Name x p')) pos.line X.env = pure false := by rfl)
    (hf : X.fn x = true ∨ X.env.scope.names.lookup x = some .local := by first | exact .inl rfl | exact .inr rfl) : WSs X (.Assign [.Name x p'] e pos :: rest) D' σ H :=
  s_cons (.by (ps_set G.nd hi hx pe_W hs hf) (h.mono q))
/-- a list, known at its place -/
theorem s_setL (i : Nat) {x : Str} {p' : Pos} {ds : List D} (G : GX X k) (E : Env ρ σ H) (he : ED X H ρ e (Lst ds)) (q : ∀ l σ' H', Same H H' → LstAt H' l ds → Env (ρ.set i (some (rf l))) σ' H' → WSs X rest D' σ' H')
    (hi : X.N[i]? = some x := by rfl) (hx : Loc X.env.scope x := by first | exact .inl rfl | exact .inr rfl) (hs : swapsWith e (some (.Name x p')) pos.line X.env = pure false := by rfl)
    (hf : X.fn x = true ∨ X.env.scope.names.lookup x = some .local := by first | exact .inl rfl | exact .inr rfl) : WSs X (.Assign [.Name x p'] e pos :: rest) D' σ H :=
  s_asg i G E he (fun v H' s ⟨l, vs, ev, hl, r⟩ E' => q l _ H' s ⟨vs, hl, r⟩ (E'.set i (P := rf l) ev)) hi hx hs hf
/-- a display of a list: a new one -/
theorem s_setD (i : Nat) {x : Str} {p' p2 : Pos} {ds : List D} (G : GX X k) (E : Env ρ σ H) (he : AD X H ρ es (fun H vs => RepL H ds vs)) (q : ∀ l σ' H', H l = none → Same H H' → LstAt H' l ds → Env (ρ.set i (some (rf l))) σ' H' → WSs X rest D' σ' H') (hl : ds.length ≤ 1000 := by decide)
    (hi : X.N[i]? = some x := by rfl) (hx : Loc X.env.scope x := by first | exact .inl rfl | exact .inr rfl) (hs : swapsWith (.List es p2) (some (.Name x p')) pos.line X.env = pure false := by rfl)
    (hf : X.fn x = true ∨ X.env.scope.names.lookup x = some .local := by first | exact .inl rfl | exact .inr rfl) : WSs X (.Assign [.Name x p'] (.List es p2) pos :: rest) D' σ H := by
  refine s_cons (.by (ps_set G.nd hi hx (pe_lst pa_W) hs hf) ?_)
  refine he.run σ H _ E.en fun vs H1 s1 r => ⟨by rw [← r.length]; exact Nat.le_of_lt (small1000 hl), fun p hp => ?_⟩
  exact q p _ _ (s1.free hp) (s1.trans (same_upd hp)) ⟨vs, upd_same, r.le (.of (same_upd hp))⟩ ((E.same (s1.trans (same_upd hp))).set i (P := rf p) rfl)
theorem s_ret {P : Hp → V → Prop} (E : Env ρ σ H) (he : ED X H ρ e P) (q : ∀ v H', Same H H' → P H' v → D'.rt v H') : WSs X (.Return (some e) pos :: rest) D' σ H :=
  s_cons (.by (ps_ret pe_W) (he.run σ H _ E.en q))
theorem s_if {k : Bool} {u v : List Stmt} (E : Env ρ σ H) (hc : TD X H ρ c k) (h1 : k = true → ∀ H', Same H H' → Env ρ σ H' → WSs X u { D' with nx := fun σ' H' => WSs X rest D' σ' H' } σ H')
    (h2 : k = false → ∀ H', Same H H' → Env ρ σ H' → WSs X v { D' with nx := fun σ' H' => WSs X rest D' σ' H' } σ H') : WSs X (.If c u v pos :: rest) D' σ H := by
  refine s_cons (.by (ps_if pt_W pss_W pss_W) ?_)
  refine hc.run σ H _ E.en fun H' s => ?_
  cases k with
  | true => exact iteT (h1 rfl H' s (E.same s))
  | false => exact iteF (h2 rfl H' s (E.same s))
/-- an if without else, its test false -/
theorem s_skip {u : List Stmt} (E : Env ρ σ H) (hc : TD X H ρ c false) (q : ∀ H', Same H H' → Env ρ σ H' → WSs X rest D' σ H') : WSs X (.If c u [] pos :: rest) D' σ H :=
  s_if E hc (fun h => by cases h) fun _ H' s E' => s_nil (q H' s E')
theorem s_expr (q : WE X e σ H fun _ H' => WSs X rest D' σ H') (hs : swapsWith e none pos.line X.env = pure false := by rfl) : WSs X (.Expr e pos :: rest) D' σ H :=
  s_cons (.by (ps_expr pe_W hs) q)
theorem s_do {P : Hp → V → Prop} (E : Env ρ σ H) (he : ED X H ρ e P) (q : ∀ v H', Same H H' → P H' v → Env ρ σ H' → WSs X rest D' σ H') (hs : swapsWith e none pos.line X.env = pure false := by rfl) : WSs X (.Expr e pos :: rest) D' σ H :=
  s_expr (he.run σ H _ E.en fun v H' s p => q v H' s p (E.same s)) hs
/-- xs.append(e) -/
theorem s_append {l : Addr} {ds : List D} {d : D} {o : Expr} {apos cpos : Pos} (E : Env ρ σ H) (hl : LstAt H l ds) (ho : ED X H ρ o (rf l).p) (he : ER X H ρ e d) (hz : ds.length < 100000)
    (q : ∀ H', SameBut l H H' → LstAt H' l (ds ++ [d]) → Env ρ σ H' → WSs X rest D' σ H')
    (hbase : attributeBase o "append" X.env (eval o X.env) = eval o X.env := by rfl)
    (hfew : ((backTo cpos (starEach [e] X.env)).all (fun x => !x.1) && (backToKw cpos (keywordEach [] X.env)).all (fun x => x.1.isSome) && decide ([e].length + ([] : List Keyword).length + (if ([] : List Keyword).isEmpty then 0 else 1) < 30)) = true := by rfl)
    (hline : (apos.endLine == cpos.line) = true := by rfl) (hst : starEach [e] X.env = (false, eval e X.env) :: starEach [] X.env := by rfl) (hpl : (backTo cpos (starEach [] X.env)).any (·.1) = false := by rfl)
    (hs : swapsWith (.Call (.Attribute o "append" apos) [e] [] cpos) none pos.line X.env = pure false := by rfl) : WSs X (.Expr (.Call (.Attribute o "append" apos) [e] [] cpos) pos :: rest) D' σ H := by
  refine s_expr (.by (pe_bm PySem.F.plainAttrs_list PySem.F.slot_list_append PySem.F.type_list_append mt_append pe_W (pa_cons pe_W pa_nil hst) hbase hfew hline hst hpl) ?_) hs
  refine ho.run σ H _ E.en fun v H1 s1 ev => ?_
  obtain rfl : v = .ref l := ev
  obtain ⟨vs, h1, r1⟩ := hl.same s1
  refine ⟨Or.inl ⟨rfl, vs, SqL.of h1⟩, ?_⟩
  refine he.run σ H1 _ (E.en.same s1) fun x H2 s2 p2 => ?_
  obtain ⟨vs', h2, r2⟩ := (hl.same (s1.trans s2))
  have hz' : vs'.length < sizeLine := by rw [← r2.length]; exact Nat.lt_of_lt_of_le hz (by decide)
  refine ⟨l, vs', x, rfl, rfl, h2, hz', ?_⟩
  have le2 : Le H2 (upd H2 l (.lst (vs' ++ [x]))) := Le.upd h2 rfl
  exact q _ ((SameBut.of (s1.trans s2)).trans .upd) ⟨_, upd_same, (r2.append (.cons p2 .nil)).le le2⟩ ((E.same (s1.trans s2)).le le2)
/-- xs.extend(ys), ys a new list -/
theorem s_extend {l : Addr} {ds es' : List D} {o : Expr} {apos cpos : Pos} (E : Env ρ σ H) (hl : LstAt H l ds) (ho : ED X H ρ o (rf l).p) (he : ED X H ρ e (Lst es')) (hz : ds.length + es'.length < 100000)
    (q : ∀ H', SameBut l H H' → LstAt H' l (ds ++ es') → Env ρ σ H' → WSs X rest D' σ H')
    (hbase : attributeBase o "extend" X.env (eval o X.env) = eval o X.env := by rfl)
    (hfew : ((backTo cpos (starEach [e] X.env)).all (fun x => !x.1) && (backToKw cpos (keywordEach [] X.env)).all (fun x => x.1.isSome) && decide ([e].length + ([] : List Keyword).length + (if ([] : List Keyword).isEmpty then 0 else 1) < 30)) = true := by rfl)
    (hline : (apos.endLine == cpos.line) = true := by rfl) (hst : starEach [e] X.env = (false, eval e X.env) :: starEach [] X.env := by rfl) (hpl : (backTo cpos (starEach [] X.env)).any (·.1) = false := by rfl)
    (hs : swapsWith (.Call (.Attribute o "extend" apos) [e] [] cpos) none pos.line X.env = pure false := by rfl) : WSs X (.Expr (.Call (.Attribute o "extend" apos) [e] [] cpos) pos :: rest) D' σ H := by
  refine s_expr (.by (pe_bm PySem.F.plainAttrs_list PySem.F.slot_list_extend PySem.F.type_list_extend mt_extend pe_W (pa_cons pe_W pa_nil hst) hbase hfew hline hst hpl) ?_) hs
  refine ho.run σ H _ E.en fun v H1 s1 ev => ?_
  obtain rfl : v = .ref l := ev
  obtain ⟨vs, h1, r1⟩ := hl.same s1
  refine ⟨Or.inl ⟨rfl, vs, SqL.of h1⟩, ?_⟩
  refine he.run σ H1 _ (E.en.same s1) fun x H2 s2 p2 => ?_
  obtain ⟨b, us, rfl, hb, rb⟩ := p2
  obtain ⟨vs', h2, r2⟩ := (hl.same (s1.trans s2))
  have l1 := r2.length
  have l2 := rb.length
  have hs1 : (100000 : Nat) ≤ sizeLine := by decide
  refine ⟨l, b, vs', us, rfl, rfl, h2, hb, by omega, ?_⟩
  have le2 : Le H2 (upd H2 l (.lst (vs' ++ us))) := Le.upd h2 rfl
  exact q _ ((SameBut.of (s1.trans s2)).trans .upd) ⟨_, upd_same, (r2.append rb).le le2⟩ ((E.same (s1.trans s2)).le le2)
/-! ### targets -/
theorem g_name (i : Nat) {x : Str} {v : V} {Q : L2.St → Hp → Prop} (G : GX X k) (q : Q (σ.set i (some v)) H) (hi : X.N[i]? = some x := by rfl) (hx : Loc X.env.scope x := by first | exact .inl rfl | exact .inr rfl)
    (hf : X.fn x = true ∨ X.env.scope.names.lookup x = some .local := by first | exact .inl rfl | exact .inr rfl) : WG X (.Name x pos) v σ H Q :=
  fun pins s u I r => (pg_name G.nd hi hx hf).run pins s σ H v u Q I r q
theorem g_tup2 (i j : Nat) {x y : Str} {v : V} {d d' : D} {px py : Pos} {n : Nat} {Q : L2.St → Hp → Prop} (G : GX X k) (r : Rep H (.tup [d, d']) v) (q : ∀ v1 v2, Rep H d v1 → Rep H d' v2 → Q ((σ.set i (some v1)).set j (some v2)) H)
    (hi : X.N[i]? = some x := by rfl) (hx : Loc X.env.scope x := by first | exact .inl rfl | exact .inr rfl) (hf : X.fn x = true ∨ X.env.scope.names.lookup x = some .local := by first | exact .inl rfl | exact .inr rfl)
    (hj : X.N[j]? = some y := by rfl) (hy : Loc X.env.scope y := by first | exact .inl rfl | exact .inr rfl) (hg : X.fn y = true ∨ X.env.scope.names.lookup y = some .local := by first | exact .inl rfl | exact .inr rfl) : WG X (.Tuple [.Name x px, .Name y py] n pos) v σ H Q :=
  fun pins s u I ru => (pg_tup G.calm (pgs_cons (pg_name G.nd hi hx hf) (pgs_cons (pg_name G.nd hj hy hg) pgs_nil))).run pins s σ H v u Q I ru (by
    cases r with
    | tup h rl =>
      cases rl with
      | cons r1 t =>
        cases t with
        | cons r2 t2 =>
          cases t2
          exact ⟨_, _, rfl, SqT.of h, rfl, _, _, rfl, _, _, rfl, rfl, q _ _ r1 r2⟩)
/-- a, b = e -/
theorem s_unp2 (i j : Nat) {x y : Str} {d d' : D} {px py p2 : Pos} {n : Nat} (G : GX X k) (E : Env ρ σ H) (he : ER X H ρ e (.tup [d, d'])) (q : ∀ σ' H', Same H H' → Env ((ρ.set i (some (R d))).set j (some (R d'))) σ' H' → WSs X rest D' σ' H')
    (hi : X.N[i]? = some x := by rfl) (hx : Loc X.env.scope x := by first | exact .inl rfl | exact .inr rfl) (hf : X.fn x = true ∨ X.env.scope.names.lookup x = some .local := by first | exact .inl rfl | exact .inr rfl)
    (hj : X.N[j]? = some y := by rfl) (hy : Loc X.env.scope y := by first | exact .inl rfl | exact .inr rfl) (hg : X.fn y = true ∨ X.env.scope.names.lookup y = some .local := by first | exact .inl rfl | exact .inr rfl)
    (hs : swapsWithSole [.Tuple [.Name x px, .Name y py] n p2] e pos.line X.env = pure false := by rfl) (hw : swappedStores [.Tuple [.Name x px, .Name y py] n p2] e X.env = pure none := by rfl) : WSs X (.Assign [.Tuple [.Name x px, .Name y py] n p2] e pos :: rest) D' σ H := by
  refine s_cons (.by (ps_asg pe_W pg_W hs hw) ?_)
  refine he.run σ H _ E.en fun v H1 s1 p => ?_
  exact g_tup2 i j G p (fun v1 v2 r1 r2 => q _ _ s1 (((E.same s1).set i (P := R d) r1).set j (P := R d') r2)) hi hx hf hj hy hg
/-! ### loops -/
/-- over a tuple: J by the turn; its place and items are known -/
theorem s_forT {it tg : Expr} {ds : List D} (G : GX X k) (hp : PassesOwn (model X.prog X.w) X.A X.env X.xe) (E : Env ρ σ H) (hi : ER X H ρ it (.tup ds))
    (q : ∀ a vs H1, Same H H1 → H1 a = some (.tup vs) → RepL H1 ds vs → Env ρ σ H1 → ∃ J : Nat → L2.St → Hp → Prop, J 0 σ H1 ∧ (∀ i σ' H', J i σ' H' → H' a = some (.tup vs)) ∧
      (∀ i d v σ' H', ds[i]? = some d → J i σ' H' → vs[i]? = some v → WG X tg v σ' H' fun σ2 H2 => WSs X body { D' with nx := J (i + 1), ct := J (i + 1), bk := fun σ' H' => WSs X rest D' σ' H' } σ2 H2) ∧
      (∀ σ' H', J ds.length σ' H' → WSs X rest D' σ' H'))
    (hs : ∀ x, foldedSetIterable it X.env x = pure x := by intro _; rfl) : WSs X (.For tg it body [] pos :: rest) D' σ H := by
  refine s_cons (.by (ps_for hp G.calm (pi_tup pe_W) pg_W pss_W hs) ?_)
  refine hi.run σ H _ E.en fun v H1 s1 p => ?_
  cases p with
  | tup h1 r1 =>
    obtain ⟨J, j0, jt, js, jd⟩ := q _ _ H1 s1 h1 r1 (E.same s1)
    refine ⟨_, rfl, ⟨_, SqT.of h1⟩, for_tup J j0 (fun i σ' H' _ j => SqT.of (jt i σ' H' j)) (fun i x σ' H' hx j => ?_) fun σ' H' j => jd σ' H' (by rw [r1.length]; exact j)⟩
    obtain ⟨d, hd, rd⟩ := r1.getV hx
    exact js i d x σ' H' hd j hx
/-- over a list that stays -/
theorem s_forL {it tg : Expr} {ds : List D} (G : GX X k) (hp : PassesOwn (model X.prog X.w) X.A X.env X.xe) (E : Env ρ σ H) (hi : ED X H ρ it (Lst ds))
    (q : ∀ a vs H1, Same H H1 → H1 a = some (.lst vs) → RepL H1 ds vs → Env ρ σ H1 → ∃ J : Nat → L2.St → Hp → Prop, J 0 σ H1 ∧ (∀ i σ' H', J i σ' H' → H' a = some (.lst vs)) ∧
      (∀ i d v σ' H', ds[i]? = some d → J i σ' H' → vs[i]? = some v → WG X tg v σ' H' fun σ2 H2 => WSs X body { D' with nx := J (i + 1), ct := J (i + 1), bk := fun σ' H' => WSs X rest D' σ' H' } σ2 H2) ∧
      (∀ σ' H', J ds.length σ' H' → WSs X rest D' σ' H'))
    (hs : ∀ x, foldedSetIterable it X.env x = pure x := by intro _; rfl) : WSs X (.For tg it body [] pos :: rest) D' σ H := by
  refine s_cons (.by (ps_for hp G.calm (pi_list pe_W) pg_W pss_W hs) ?_)
  refine hi.run σ H _ E.en fun v H1 s1 p => ?_
  obtain ⟨a, vs, rfl, h1, r1⟩ := p
  obtain ⟨J, j0, jt, js, jd⟩ := q a vs H1 s1 h1 r1 (E.same s1)
  refine ⟨_, rfl, ⟨_, SqL.of h1⟩, for_list J j0 (fun i σ' H' _ j => SqL.of (jt i σ' H' j)) (fun i x σ' H' hx j => ?_) fun σ' H' j => jd σ' H' (by rw [r1.length]; exact j)⟩
  obtain ⟨d, hd, rd⟩ := r1.getV hx
  exact js i d x σ' H' hd j hx
/-- over range(n) -/
theorem s_forR {tg : Expr} {n : Int} {p : Pos} (G : GX X k) (hp : PassesOwn (model X.prog X.w) X.A X.env X.xe) (hm : X.mg "range" = none) (hn : n < 100000 ∧ -100000 < n) (E : Env ρ σ H) (hi : ER X H ρ a (.int n))
    (J : Nat → L2.St → Hp → Prop) (j0 : ∀ H1, Same H H1 → Env ρ σ H1 → J 0 σ H1)
    (js : ∀ (i : Nat) σ' H', (i : Int) < n → J i σ' H' → WG X tg (.int i) σ' H' fun σ2 H2 => WSs X body { D' with nx := J (i + 1), ct := J (i + 1), bk := fun σ' H' => WSs X rest D' σ' H' } σ2 H2)
    (jd : ∀ σ' H', J n.toNat σ' H' → WSs X rest D' σ' H')
    (hg : Gl X "range" := by rfl) (hst : starEach [a] X.env = [(false, eval a X.env)] := by rfl) (hs : ∀ x, foldedSetIterable (.Call (.Name "range" p) [a] [] pos) X.env x = pure x := by intro _; rfl) {pos' : Pos} : WSs X (.For tg (.Call (.Name "range" p) [a] [] pos) body [] pos' :: rest) D' σ H := by
  refine s_cons (.by (ps_for hp G.calm (pi_range1 hg hm (pa_cons pe_W pa_nil hst) hst) pg_W pss_W hs) ?_)
  refine hi.run σ H _ E.en fun v H1 s1 pr => ?_
  cases pr
  refine ⟨n, rfl, by omega, by omega, for_range J (j0 H1 s1 (E.same s1)) (fun i σ' H' hi j => ?_) fun σ' H' j => jd σ' H' j⟩
  have := js i σ' H' (by omega) j
  rw [show (0 : Int) + (i : Int) = i by omega]
  exact this
end
end K31
namespace K31
open L2 PySem PySem.Spec PyProof.Rows
/-! ### defs -/
/-- the global def x keeps the promise sp -/
def DefOk (P : Program) (w : World) (K : PySem.W.Frag) (mg : Str → Option Value) (base : Heap) (k : Nat) (x : Str) (sp : Sp) : Prop :=
  ∃ f, mg x = some (.ref f) ∧ PySem.W.keepIn K (.ref f) = true ∧ FnR P w K mg base CX0 k f sp
section
variable {X : Cx} {Hz : Hp} {ρ : Rho} {σ : L2.St} {H : Hp} {D' : Ends} {a b c e : Expr} {es : List Expr} {rest body : List Stmt} {pos p : Pos} {k : Nat} {x : Str} {sp : Sp}
/-- f(e, ..): the call, whatever it does -/
theorem we_call {Q : VK} (F : DefOk X.prog X.w X.K X.mg X.base k x sp) (G : GX X k) (h : WA X (e :: es) σ H fun vs H1 => sp vs H1 Q E0) (hg : Gl X x := by rfl) (hd : (x == ("__debug__" : Str)) = false := by decide)
    (he : starEach (e :: es) X.env = (false, eval e X.env) :: starEach es X.env := by rfl) (hpl : (backTo pos (starEach es X.env)).any (·.1) = false := by rfl) : WE X (.Call (.Name x p) (e :: es) [] pos) σ H Q := by
  obtain ⟨f, hm, hk, hF⟩ := F
  intro pins s I
  refine wpAny_Call_Name_kw (ld_glob I hg hm ?_ hd); refine PySem.W.callWith_K (h₀ := X.base) I.ok.mod.kin hk (thn (h pos pins s I) fun us s1 ⟨vs, H1, I1, r, q⟩ => ⟨I1.kIn, ?_⟩) he hpl
  exact wpAny_call (run_fnR hF G.room pass0 I1 r q)
theorem ed_call {A : Hp → List V → Prop} {P : Hp → V → Prop} (F : DefOk X.prog X.w X.K X.mg X.base k x sp) (G : GX X k) (ha : AD X Hz ρ (e :: es) A) (h : ∀ vs H, A H vs → ∀ Q : VK, (∀ v H', Same H H' → P H' v → Q v H') → sp vs H Q E0) (hg : Gl X x := by rfl) (hd : (x == ("__debug__" : Str)) = false := by decide)
    (he : starEach (e :: es) X.env = (false, eval e X.env) :: starEach es X.env := by rfl) (hpl : (backTo pos (starEach es X.env)).any (·.1) = false := by rfl) : ED X Hz ρ (.Call (.Name x p) (e :: es) [] pos) P :=
  ⟨fun σ H Q E q => we_call F G (ha.run σ H _ E fun vs H1 s1 p1 => h vs H1 p1 _ fun v H2 s2 p2 => q v H2 (s1.trans s2) p2) hg hd he hpl⟩
end
/-- data in, data out -/
def spF {α : Type} (ds : α → List D) (pre : α → Prop) (d : α → D) : Sp := fun vs H Q _ => ∃ x, RepL H (ds x) vs ∧ pre x ∧ ∀ v H', Same H H' → Rep H' (d x) v → Q v H'
/-- data in, a new list out -/
def spL {α : Type} (ds : α → List D) (pre : α → Prop) (d : α → List D) : Sp := fun vs H Q _ => ∃ x, RepL H (ds x) vs ∧ pre x ∧ ∀ v H', Same H H' → Lst (d x) H' v → Q v H'
section
variable {X : Cx} {Hz : Hp} {ρ : Rho} {e : Expr} {es : List Expr} {pos p : Pos} {k : Nat} {x : Str} {α : Type} {ds : α → List D} {pre : α → Prop}
theorem er_call {d : α → D} (F : DefOk X.prog X.w X.K X.mg X.base k x (spF ds pre d)) (G : GX X k) (z : α) (hp : pre z) (ha : AD X Hz ρ (e :: es) (fun H vs => RepL H (ds z) vs)) (hg : Gl X x := by rfl) (hd : (x == ("__debug__" : Str)) = false := by decide)
    (he : starEach (e :: es) X.env = (false, eval e X.env) :: starEach es X.env := by rfl) (hpl : (backTo pos (starEach es X.env)).any (·.1) = false := by rfl) : ER X Hz ρ (.Call (.Name x p) (e :: es) [] pos) (d z) :=
  ed_call F G ha (fun vs H h Q q => ⟨z, h, hp, q⟩) hg hd he hpl
theorem el_call {d : α → List D} (F : DefOk X.prog X.w X.K X.mg X.base k x (spL ds pre d)) (G : GX X k) (z : α) (hp : pre z) (ha : AD X Hz ρ (e :: es) (fun H vs => RepL H (ds z) vs)) (hg : Gl X x := by rfl) (hd : (x == ("__debug__" : Str)) = false := by decide)
    (he : starEach (e :: es) X.env = (false, eval e X.env) :: starEach es X.env := by rfl) (hpl : (backTo pos (starEach es X.env)).any (·.1) = false := by rfl) : ED X Hz ρ (.Call (.Name x p) (e :: es) [] pos) (Lst (d z)) :=
  ed_call F G ha (fun vs H h Q q => ⟨z, h, hp, q⟩) hg hd he hpl
end
/-! ### a def by its body -/
theorem spF_len {α : Type} {ds : α → List D} {pre : α → Prop} {d : α → D} {n : Nat} (h : ∀ x, (ds x).length = n) : ∀ vs H Q E, spF ds pre d vs H Q E → vs.length = n := fun vs H Q E ⟨x, r, _⟩ => by rw [← r.length]; exact h x
theorem spL_len {α : Type} {ds : α → List D} {pre : α → Prop} {d : α → List D} {n : Nat} (h : ∀ x, (ds x).length = n) : ∀ vs H Q E, spL ds pre d vs H Q E → vs.length = n := fun vs H Q E ⟨x, r, _⟩ => by rw [← r.length]; exact h x
/-- the slots at the entry -/
theorem env_start {N : List Str} {H : Hp} : ∀ {Ps' : List PP} {vs : List V}, Paired (fun P v => P.p H v) Ps' vs → Env (Ps'.map some ++ List.replicate (N.length - vs.length) none) (L2.start N vs) H := by
  intro Ps' vs h
  refine ⟨by simp [L2.start, Paired.length h], fun i P hi => ?_⟩
  have key : ∀ {Ps' : List PP} {vs : List V} (n : Nat), Paired (fun P v => P.p H v) Ps' vs → ∀ (i : Nat) P, (Ps'.map some ++ List.replicate n none)[i]? = some (some P) → ∃ v, (vs.map some ++ List.replicate n none)[i]? = some (some v) ∧ P.p H v := by
    intro Ps' vs n h
    induction h with
    | nil =>
      intro i P hi
      simp at hi
      rw [List.getElem?_replicate] at hi
      split at hi <;> cases hi
    | cons r t ih =>
      intro i P hi
      cases i with
      | zero => simp at hi; subst hi; exact ⟨_, rfl, r⟩
      | succ i => exact ih i P (by simpa using hi)
  exact key _ h i P hi
theorem RepL.pairR {H : Hp} : ∀ {ds : List D} {vs : List V}, RepL H ds vs → Paired (fun (P : PP) v => P.p H v) (ds.map R) vs
  | _, _, .nil => .nil
  | _, _, .cons r t => .cons r (RepL.pairR t)
/-- a def of the text: its body walked -/
theorem def_ok {P : Program} {w : World} {K : PySem.W.Frag} {mg : Str → Option Value} {base : Heap} {x qual : Str} {st : Stmt} {f : Addr} {fd : FuncData} {N ps : List Str} {k : Nat} {sp : Sp}
    (F : FunD K x qual (defArgs st) (defBody st) (defScope st) [] [] f fd) (hb : Binds K fd ps []) (S : FnScope N ps (defScope st)) (len : ∀ vs H Q E, sp vs H Q E → vs.length = ps.length)
    (hbody : ∀ (X : Cx) (vs : List V) (H : Hp) (Q : VK) (E : XK), (∃ cdv A outer s, X = (cxOf CX0 P w K mg base N qual (defScope st) f cdv A outer s H E).nox) → GX X k → sp vs H Q E → WSs X (defBody st) { nx := fun _ H' => Q .non H', rt := Q } (L2.start N vs) H) :
    FnR P w K mg base CX0 (k + 1) f sp := by
  have ok : FnOk P w K mg base CX0 (k + 1) f fd ps sp := F.ok S len fun cdv A outer s H vs Q E hr h => ⟨_, PSs.nox pss_W, hbody _ vs H Q E ⟨cdv, A, outer, s, rfl⟩ ⟨rfl, S.nd, hr⟩ h⟩
  have := ok.raw hb .nil
  intro A outer s H us vs Q E hr e0 r hs; refine this A outer s H us vs Q E hr e0 r ?_
  show sp (vs ++ []) H Q E
  rw [List.append_nil]; exact hs
/-! ### what a comprehension walks -/
/-- at turn i the i-th of ds comes, as long as G stands -/
def WI (X : Cx) (tg it : Expr) : TI := fun σ H R => ∀ (pins : List (Addr × Obj)) (s : Shared), Inv X pins σ H s →
    wpAny (model X.prog X.w) X.A (eval it X.env) (fun v s1 => wpAny (model X.prog X.w) X.A (pyIter v) (PIE X pins σ tg R) X.xe s1) X.xe s
theorem pi_W {X : Cx} {tg it : Expr} : PI X tg it (WI X tg it) := ⟨fun pins s σ H R I h => h pins s I⟩
theorem WI.by {X : Cx} {tg it : Expr} {t : TI} (h : PI X tg it t) {σ : L2.St} {H : Hp} {R : It → Hp → Prop} (q : t σ H R) : WI X tg it σ H R := fun pins s I => h.run pins s σ H R I q
structure Src (X : Cx) (Hz : Hp) (ρ : Rho) (tg it : Expr) (ds : List D) : Prop where
  run : ∀ (σ : L2.St) (H : Hp) (R : It → Hp → Prop), En Hz ρ σ H → (∀ (J : It) (H1 : Hp) (G : Hp → Prop), Same H H1 → G H1 → (∀ Ha Hb, Same Ha Hb → G Ha → G Hb) →
    Walk J ds.length G (fun i Ha v Hb => Same Ha Hb ∧ ∃ d, ds[i]? = some d ∧ (Same H1 Ha → Rep Hb d v)) → R J H1) → WI X tg it σ H R
section
variable {X : Cx} {Hz : Hp} {ρ : Rho} {tg it a e : Expr} {pos p : Pos} {k : Nat}
theorem src_tup {ds : List D} (h : ER X Hz ρ it (.tup ds)) : Src X Hz ρ tg it ds := by
  refine ⟨fun σ H R E q => .by (pi_tup pe_W) ?_⟩
  refine h.run σ H _ E fun v H1 s1 r => ?_
  cases r with
  | tup h1 r1 =>
    refine ⟨_, rfl, ⟨_, SqT.of h1⟩, q _ H1 (fun H => H _ = some (.tup _)) s1 h1 (fun Ha Hb s g => s _ _ g) ?_⟩
    rw [r1.length]
    refine Walk.mono walk_tup (fun H g => SqT.of g) fun i Ha v Hb hi g y => ?_
    obtain ⟨rfl, hx⟩ := y
    obtain ⟨d, hd, rd⟩ := r1.getV hx
    exact ⟨Same.refl _, d, hd, fun s => rd.le (.of s)⟩
theorem src_lst {ds : List D} (h : ED X Hz ρ it (Lst ds)) : Src X Hz ρ tg it ds := by
  refine ⟨fun σ H R E q => .by (pi_list pe_W) ?_⟩
  refine h.run σ H _ E fun v H1 s1 r => ?_
  obtain ⟨a, vs, rfl, h1, r1⟩ := r
  refine ⟨_, rfl, ⟨_, SqL.of h1⟩, q _ H1 (fun H => H a = some (.lst vs)) s1 h1 (fun Ha Hb s g => s _ _ g) ?_⟩
  rw [r1.length]
  refine Walk.mono walk_list (fun H g => SqL.of g) fun i Ha v Hb hi g y => ?_
  obtain ⟨rfl, hx⟩ := y
  obtain ⟨d, hd, rd⟩ := r1.getV hx
  exact ⟨Same.refl _, d, hd, fun s => rd.le (.of s)⟩
theorem src_range {n : Int} (hm : X.mg "range" = none) (hn : n < 100000 ∧ -100000 < n) (h : ER X Hz ρ a (.int n)) (hg : Gl X "range" := by rfl) (hst : starEach [a] X.env = [(false, eval a X.env)] := by rfl) :
    Src X Hz ρ tg (.Call (.Name "range" p) [a] [] pos) ((List.range n.toNat).map fun i : Nat => D.int i) := by
  refine ⟨fun σ H R E q => .by (pi_range1 hg hm (pa_cons pe_W pa_nil hst) hst) ?_⟩
  refine h.run σ H _ E fun v H1 s1 r => ?_
  cases r
  refine ⟨n, rfl, by omega, by omega, q _ H1 (fun _ => True) s1 trivial (fun _ _ _ _ => trivial) ?_⟩
  have e : ((List.range n.toNat).map fun i : Nat => D.int i).length = n.toNat := by simp
  rw [e]
  refine Walk.mono walk_range (fun H _ => trivial) fun i Ha v Hb hi g y => ?_
  obtain ⟨rfl, rfl⟩ := y
  refine ⟨Same.refl _, .int i, by simp [hi], fun s => ?_⟩
  show Rep _ (.int i) (.int (0 + i))
  rw [show (0 : Int) + (i : Int) = i by omega]
  exact .int _
theorem src_str {s : Str} (h : ER X Hz ρ it (.str s)) : Src X Hz ρ tg it (s.cps.toList.map fun c => D.str ⟨#[c]⟩) := by
  refine ⟨fun σ H R E q => .by (pi_str pe_W) ?_⟩
  refine h.run σ H _ E fun v H1 s1 r => ?_
  cases r
  refine ⟨s, rfl, q _ H1 (fun _ => True) s1 trivial (fun _ _ _ _ => trivial) ?_⟩
  have e : (s.cps.toList.map fun c => D.str ⟨#[c]⟩).length = s.cps.size := by simp
  rw [e]
  refine Walk.mono walk_str (fun H _ => trivial) fun i Ha v Hb hi g y => ?_
  obtain ⟨rfl, c, hc, rfl⟩ := y
  refine ⟨Same.refl _, .str ⟨#[c]⟩, ?_, fun s => .str _⟩
  rw [List.getElem?_map, Array.getElem?_toList, hc]
  rfl
end
/-! ### comprehensions -/
theorem wipe_len {ρ : Rho} : ∀ vs : List Nat, (wipeR ρ vs).length = ρ.length
  | [] => rfl
  | v :: vs => by show ((wipeR ρ vs).set v none).length = _; rw [List.length_set]; exact wipe_len vs
/-- the target takes the item: ρ' is what is known then -/
structure TgD (Y : Cx) (ρ ρ' : Rho) (tg : Expr) (vs : List Nat) (d : D) : Prop where
  run : ∀ (σ : L2.St) (H : Hp) (v : V) (Q : L2.St → Hp → Prop), Env ρ (wipe σ vs) H → Rep H d v → (∀ σ2, Env ρ' σ2 H → wipe σ2 vs = wipe σ vs → Q σ2 H) → WG Y tg v (wipe σ vs) H Q
theorem wipe_set (σ : L2.St) (i : Nat) (o : Option V) : wipe ((wipe σ [i]).set i o) [i] = wipe σ [i] := by
  show ((σ.set i none).set i o).set i none = σ.set i none
  rw [List.set_set, List.set_set]
theorem wipe_set2 (σ : L2.St) (i j : Nat) (hij : i ≠ j) (o o' : Option V) : wipe (((wipe σ [i, j]).set i o).set j o') [i, j] = wipe σ [i, j] := by
  show (((((σ.set j none).set i none).set i o).set j o').set j none).set i none = (σ.set j none).set i none
  apply List.ext_getElem?
  intro m
  by_cases h1 : i = m
  · subst h1
    simp only [List.getElem?_set, List.length_set]
    simp
  · by_cases h2 : j = m
    · subst h2
      simp only [List.getElem?_set, List.length_set, h1, hij]
      simp
    · simp [List.getElem?_set_ne h1, List.getElem?_set_ne h2]
section
variable {Y : Cx} {ρ : Rho} {pos : Pos} {k : Nat}
theorem tg_name (i : Nat) {x : Str} {d : D} (nd : Y.N.Nodup) (hi : Y.N[i]? = some x := by rfl) (hx : Loc Y.env.scope x := by first | exact .inl rfl | exact .inr rfl) (hf : Y.fn x = true ∨ Y.env.scope.names.lookup x = some .local := by first | exact .inr rfl | exact .inl rfl) :
    TgD Y ρ (ρ.set i (some (R d))) (.Name x pos) [i] d := ⟨fun σ H v Q E r q pins s u I ru => (pg_name nd hi hx hf).run pins s _ H v u Q I ru (q _ (E.set i (P := R d) r) (wipe_set σ i _))⟩
theorem tg_tup2 (i j : Nat) {x y : Str} {d d' : D} {px py : Pos} {n : Nat} (nd : Y.N.Nodup) (hc : Y.calm = true) (hij : i ≠ j := by decide) (hi : Y.N[i]? = some x := by rfl) (hx : Loc Y.env.scope x := by first | exact .inl rfl | exact .inr rfl) (hf : Y.fn x = true ∨ Y.env.scope.names.lookup x = some .local := by first | exact .inr rfl | exact .inl rfl)
    (hj : Y.N[j]? = some y := by rfl) (hy : Loc Y.env.scope y := by first | exact .inl rfl | exact .inr rfl) (hg : Y.fn y = true ∨ Y.env.scope.names.lookup y = some .local := by first | exact .inr rfl | exact .inl rfl) :
    TgD Y ρ ((ρ.set i (some (R d))).set j (some (R d'))) (.Tuple [.Name x px, .Name y py] n pos) [i, j] (.tup [d, d']) := by
  refine ⟨fun σ H v Q E r q pins s u I ru => (pg_tup hc (pgs_cons (pg_name nd hi hx hf) (pgs_cons (pg_name nd hj hy hg) pgs_nil))).run pins s _ H v u Q I ru ?_⟩
  cases r with
  | tup h rl =>
    cases rl with
    | cons r1 t =>
      cases t with
      | cons r2 t2 =>
        cases t2
        exact ⟨_, _, rfl, SqT.of h, rfl, _, _, rfl, _, _, rfl, rfl, q _ ((E.set i (P := R d) r1).set j (P := R d') r2) (wipe_set2 σ i j hij _ _)⟩
end
/-- a block of X over this scope -/
abbrev Cx.bk (X : Cx) (s : Shared) (H : Hp) (scope : Scope) (C : Addr) (cl : List (Str × Addr)) (fp : List Addr) : Cx := X.blk s H scope (compEnvC scope cl C X.env) fp
structure TsD (X : Cx) (Hz : Hp) (ρ : Rho) (ifs : List Expr) (b : Bool) : Prop where
  run : ∀ (pins : List (Addr × Obj)) (s : Shared) (σ : L2.St) (H : Hp) (Q : Bool → Hp → Prop), Inv X pins σ H s → En Hz ρ σ H → (∀ H', Same H H' → Q b H') → wpAny (model X.prog X.w) X.A (forIn ifs true fun c r => if r = true then do let ok ← isTrue c X.env (eval c X.env); pure (ForInStep.yield ok) else pure (ForInStep.yield r)) (TP X pins σ Q) X.xe s
theorem ts_nil {X : Cx} {Hz : Hp} {ρ : Rho} : TsD X Hz ρ [] true := ⟨fun pins s σ H Q I E q => pts_nil.run pins s σ H Q I (q H (Same.refl H))⟩
theorem ts_one {X : Cx} {Hz : Hp} {ρ : Rho} {c : Expr} {b : Bool} (h : TD X Hz ρ c b) : TsD X Hz ρ [c] b := ⟨fun pins s σ H Q I E q => (pts_one pt_W).run pins s σ H Q I (h.run σ H Q E q)⟩
def WTs (X : Cx) (ifs : List Expr) : TT := fun σ H Q => ∀ (pins : List (Addr × Obj)) (s : Shared), Inv X pins σ H s → wpAny (model X.prog X.w) X.A (forIn ifs true fun c r => if r = true then do let ok ← isTrue c X.env (eval c X.env); pure (ForInStep.yield ok) else pure (ForInStep.yield r)) (TP X pins σ Q) X.xe s
theorem pts_W {X : Cx} {ifs : List Expr} : PTs X ifs (WTs X ifs) := ⟨fun pins s σ H Q I h => h pins s I⟩
section
variable {X : Cx} {Hz : Hp} {ρ : Rho} {tg it elt : Expr} {ifs : List Expr} {scope : Scope} {own : List (Str × Nat)} {pos : Pos} {k : Nat} {α : Type}
/-- the reading that any of its blocks serves -/
def AllG (X : Cx) (scope : Scope) (tg : Expr) : TG := fun v σ H Q => ∀ s H0 C cl fp, WG (Cx.bk X s H0 scope C cl fp) tg v σ H Q
def AllT (X : Cx) (scope : Scope) (ifs : List Expr) : TT := fun σ H Q => ∀ s H0 C cl fp, WTs (Cx.bk X s H0 scope C cl fp) ifs σ H Q
def AllE (X : Cx) (scope : Scope) (e : Expr) : TE := fun σ H Q => ∀ s H0 C cl fp, WE (Cx.bk X s H0 scope C cl fp) e σ H Q
theorem GX.bk (G : GX X k) {s : Shared} {H : Hp} {C : Addr} {cl : List (Str × Addr)} {fp : List Addr} : GX (Cx.bk X s H scope C cl fp) k := ⟨G.calm, G.nd, G.room⟩
/-- the reading of a comprehension, whatever serves its parts -/
abbrev tLcX (X : Cx) (elt tg it : Expr) (ifs : List Expr) (scope : Scope) (own : List (Str × Nat)) : TE := tLc (WI X tg it) (AllG X scope tg) (AllT X scope ifs) (AllE X scope elt) (own.map (·.2))
theorem we_lc {σ : L2.St} {H : Hp} {Q : VK} (G : GX X k) (own : List (Str × Nat)) (ok : BlkOk X.N X.env.scope scope own) (h : tLcX X elt tg it ifs scope own σ H Q) (hs : ∀ x, foldedSetIterable it X.env x = pure x := by intro _; rfl) : WE X (.ListComp elt [⟨tg, it, ifs, 0⟩] scope pos) σ H Q :=
  .by (pe_lc (own := own) (g := AllG X scope tg) (tt := AllT X scope ifs) (te := AllE X scope elt) G.calm G.nd pi_W ok (fun s H C cl fp => ⟨fun pins s' σ H' v u Q I r h => h s H C cl fp pins s' u I r⟩) (fun s H C cl fp => ⟨fun pins s' σ H' Q I h => h s H C cl fp pins s' I⟩)
    (fun s H C cl fp => ⟨fun pins s' σ H' Q I h => h s H C cl fp pins s' I⟩) hs) h
/-- name = [..] -/
theorem s_lc {σ : L2.St} {H : Hp} {D' : Ends} {rest : List Stmt} {y : Str} {py spos : Pos} (i : Nat) (G : GX X k) (own : List (Str × Nat)) (ok : BlkOk X.N X.env.scope scope own) (h : tLcX X elt tg it ifs scope own σ H fun v H' => WSs X rest D' (σ.set i (some v)) H')
    (hsw : swapsWith (.ListComp elt [⟨tg, it, ifs, 0⟩] scope pos) (some (.Name y py)) spos.line X.env = pure true) (hy : X.N[i]? = some y := by rfl) (hyl : X.env.scope.names.lookup y = some .local := by rfl) (hs : ∀ x, foldedSetIterable it X.env x = pure x := by intro _; rfl) :
    WSs X (.Assign [.Name y py] (.ListComp elt [⟨tg, it, ifs, 0⟩] scope pos) spos :: rest) D' σ H :=
  s_cons (.by (ps_setLc (own := own) (g := AllG X scope tg) (tt := AllT X scope ifs) (te := AllE X scope elt) G.calm G.nd hy hyl hsw pi_W ok (fun s H C cl fp => ⟨fun pins s' σ H' v u Q I r h => h s H C cl fp pins s' u I r⟩) (fun s H C cl fp => ⟨fun pins s' σ H' Q I h => h s H C cl fp pins s' I⟩)
    (fun s H C cl fp => ⟨fun pins s' σ H' Q I h => h s H C cl fp pins s' I⟩) hs) h)
theorem r_lc {L : List α} {enc : α → D} (b : α → Bool) (g : α → D) {ρ' : α → Rho} (own : List (Str × Nat)) (hi : Src X Hz ρ tg it (L.map enc)) (hl : L.length < 100000)
    (ht : ∀ s H0 C cl fp, ∀ x ∈ L, TgD (Cx.bk X s H0 scope C cl fp) (wipeR ρ (own.map (·.2))) (ρ' x) tg (own.map (·.2)) (enc x))
    (hc : ∀ s H0 C cl fp, ∀ x ∈ L, TsD (Cx.bk X s H0 scope C cl fp) Hz (ρ' x) ifs (b x))
    (he : ∀ s H0 C cl fp, ∀ x ∈ L, b x = true → ER (Cx.bk X s H0 scope C cl fp) Hz (ρ' x) elt (g x)) :
    ∀ (σ : L2.St) (H : Hp) (Q : VK), En Hz ρ σ H → (∀ v H', Same H H' → Lst ((L.filter b).map g) H' v → Q v H') → tLcX X elt tg it ifs scope own σ H Q := by
  intro σ H Q E q
  refine hi.run σ H _ E fun J H1 Gd s1 g1 gs wk D hD => ?_
  have hn : (L.map enc).length = L.length := by simp
  rw [hn] at wk
  refine lc_it wk (fun i H' => Same H1 H' ∧ ∃ acc, H' D = some (.lst acc) ∧ RepL H' (((L.take i).filter b).map g) acc) ⟨same_upd hD, [], upd_same, .nil⟩ (fun i H' _ p => gs _ _ p.1 g1) (fun i v Ha Hb hi' p y => ?_) fun H' p => ?_
  · obtain ⟨sa, acc, hacc, racc⟩ := p
    obtain ⟨sab, d, hd, rd⟩ := y
    rw [List.getElem?_map] at hd
    have hx : L[i]? = some L[i] := List.getElem?_eq_getElem hi'
    rw [hx] at hd
    cases hd
    have rv := rd sa
    have hmem : L[i] ∈ L := List.getElem_mem hi'
    have Eb : En Hz ρ σ Hb := E.same ((s1.trans sa).trans sab)
    intro s H0 C cl fp
    refine (ht s H0 C cl fp _ hmem).run σ Hb v _ (Eb.env.wipe _) rv fun σ2 E2 w2 => ⟨w2, ?_⟩
    intro s' H0' C' cl' fp'
    intro pins s2 I2
    refine (hc s' H0' C' cl' fp' _ hmem).run pins s2 σ2 Hb _ I2 ⟨Eb.s0, E2⟩ fun H3 s3 => ?_
    have take1 : L.take (i + 1) = L.take i ++ [L[i]] := by rw [List.take_succ, hx]; rfl
    have hsz : (((L.take i).filter b).map g).length ≤ i := by
      rw [List.length_map]
      exact Nat.le_trans (List.length_filter_le _ _) (by rw [List.length_take]; omega)
    cases hb : b L[i] with
    | false =>
      refine iteF ⟨(sa.trans sab).trans s3, acc, s3 _ _ (sab _ _ hacc), ?_⟩
      rw [take1, List.filter_append, List.map_append]
      have : [L[i]].filter b = [] := by simp [hb]
      rw [this, List.map_nil, List.append_nil]
      exact racc.le (.of (sab.trans s3))
    | true =>
      refine iteT ?_
      intro s4 H04 C4 cl4 fp4
      refine (he s4 H04 C4 cl4 fp4 _ hmem hb).run σ2 H3 _ ⟨Eb.s0.trans s3, E2.same s3⟩ fun y H4 s4' r4 => ?_
      have h4 : H4 D = some (.lst acc) := s4' _ _ (s3 _ _ (sab _ _ hacc))
      have ra4 := racc.le (.of ((sab.trans s3).trans s4'))
      refine ⟨acc, h4, ?_, ?_, acc ++ [y], upd_same, ?_⟩
      · have e := racc.length
        exact Nat.lt_of_lt_of_le (by omega : acc.length < 100000) (by decide)
      · intro a o ha
        have : a ≠ D := by intro e; subst e; rw [hD] at ha; cases ha
        rw [upd_ne this]
        exact s4' _ _ (s3 _ _ (sab _ _ (sa _ _ ha)))
      · rw [take1, List.filter_append, List.map_append]
        have : [L[i]].filter b = [L[i]] := by simp [hb]
        rw [this]
        exact (ra4.append (.cons r4 .nil)).le (Le.upd h4 rfl)
  · obtain ⟨sa, acc, hacc, racc⟩ := p
    rw [List.take_length] at racc
    exact q _ H' (s1.trans sa) ⟨D, acc, rfl, hacc, racc⟩
theorem ed_lc {L : List α} {enc : α → D} (b : α → Bool) (g : α → D) {ρ' : α → Rho} (G : GX X k) (own : List (Str × Nat)) (hi : Src X Hz ρ tg it (L.map enc)) (ok : BlkOk X.N X.env.scope scope own) (hl : L.length < 100000)
    (ht : ∀ s H0 C cl fp, ∀ x ∈ L, TgD (Cx.bk X s H0 scope C cl fp) (wipeR ρ (own.map (·.2))) (ρ' x) tg (own.map (·.2)) (enc x))
    (hc : ∀ s H0 C cl fp, ∀ x ∈ L, TsD (Cx.bk X s H0 scope C cl fp) Hz (ρ' x) ifs (b x))
    (he : ∀ s H0 C cl fp, ∀ x ∈ L, b x = true → ER (Cx.bk X s H0 scope C cl fp) Hz (ρ' x) elt (g x)) (hs : ∀ x, foldedSetIterable it X.env x = pure x := by intro _; rfl) :
    ED X Hz ρ (.ListComp elt [⟨tg, it, ifs, 0⟩] scope pos) (Lst ((L.filter b).map g)) :=
  ⟨fun σ H Q E q => we_lc G own ok (r_lc b g own hi hl ht hc he σ H Q E q) hs⟩
/-- name = [..], nothing changed -/
theorem s_setC {σ : L2.St} {H : Hp} {D' : Ends} {rest : List Stmt} {y : Str} {py spos : Pos} {L : List α} {enc : α → D} (i : Nat) (b : α → Bool) (g : α → D) {ρ' : α → Rho} (G : GX X k) (E : Env ρ σ H) (own : List (Str × Nat)) (hi : Src X H ρ tg it (L.map enc)) (ok : BlkOk X.N X.env.scope scope own) (hl : L.length < 100000)
    (ht : ∀ s H0 C cl fp, ∀ x ∈ L, TgD (Cx.bk X s H0 scope C cl fp) (wipeR ρ (own.map (·.2))) (ρ' x) tg (own.map (·.2)) (enc x))
    (hc : ∀ s H0 C cl fp, ∀ x ∈ L, TsD (Cx.bk X s H0 scope C cl fp) H (ρ' x) ifs (b x))
    (he : ∀ s H0 C cl fp, ∀ x ∈ L, b x = true → ER (Cx.bk X s H0 scope C cl fp) H (ρ' x) elt (g x))
    (q : ∀ l σ' H', Same H H' → LstAt H' l ((L.filter b).map g) → Env (ρ.set i (some (rf l))) σ' H' → WSs X rest D' σ' H')
    (hsw : swapsWith (.ListComp elt [⟨tg, it, ifs, 0⟩] scope pos) (some (.Name y py)) spos.line X.env = pure true) (hy : X.N[i]? = some y := by rfl) (hyl : X.env.scope.names.lookup y = some .local := by rfl) (hs : ∀ x, foldedSetIterable it X.env x = pure x := by intro _; rfl) :
    WSs X (.Assign [.Name y py] (.ListComp elt [⟨tg, it, ifs, 0⟩] scope pos) spos :: rest) D' σ H :=
  s_lc i G own ok (r_lc b g own hi hl ht hc he σ H _ E.en fun v H' s ⟨l, vs, ev, hl, r⟩ => by subst ev; exact q l _ H' s ⟨vs, hl, r⟩ ((E.same s).set i (P := rf l) rfl)) hsw hy hyl hs
end
end K31
namespace K31
open L2 PySem PySem.Spec PyProof.Rows
/-- what the top has left -/
structure Tx (K : PySem.W.Frag) (mg : Str → Option Value) : Prop where
  says : He.SaysD fa fn K
  has : ∃ h, K.In h ∧ h.Ns mainGlobals mg
section
variable {P : Program} {w : World}
variable {K : PySem.W.Frag} {mg : Str → Option Value} {base : Heap}
theorem Tx.glo (T : Tx K mg) {x : Str} (i : Nat) (h : fa[i]? = some (.glo x)) : mg x = some (.ref (He.ga K x)) := let ⟨_, X, G⟩ := T.has; He.glo_ok X G (T.says.fact i h)
theorem Tx.free (T : Tx K mg) {x : Str} (i : Nat) (h : fa[i]? = some (.free x)) : mg x = none := let ⟨_, X, G⟩ := T.has; He.free_ok X G (T.says.fact i h)
theorem Tx.int (T : Tx K mg) {x : Str} {j : Int} (i : Nat) (h : fa[i]? = some (.int x j)) : ∃ t, mg x = some (.int j t) := let ⟨_, X, G⟩ := T.has; He.int_ok X G (T.says.fact i h)
theorem Tx.str (T : Tx K mg) {x z : Str} (i : Nat) (h : fa[i]? = some (.str x z)) : ∃ t, mg x = some (.str z t) := let ⟨_, X, G⟩ := T.has; He.str_ok X G (T.says.fact i h)
/-- a def of the module by its body -/
theorem Tx.defOk (T : Tx K mg) {x : Str} {st : Stmt} {N ps : List Str} {k : Nat} {sp : Sp} (hg : mg x = some (.ref (He.ga K x))) (j : Nat)
    (hj : fn[j]? = some ⟨(x, none), x, x, defArgs st, defBody st, defScope st, [], []⟩)
    (hb : ∀ (kV doc pm : Value) (an : Option Addr) (cdv ct : Value) (us : List Value), us.length = ps.length → bindArgs (PySem.W.fnOf x x (defArgs st) (defBody st) (defScope st) .none kV doc pm an cdv ct) ⟨us, []⟩ = pure (ps.zip us))
    (S : FnScope N ps (defScope st)) (len : ∀ vs H Q E, sp vs H Q E → vs.length = ps.length)
    (hbody : ∀ (X : Cx) (vs : List V) (H : Hp) (Q : VK) (E : XK), (∃ f cdv A outer s, X = (cxOf CX0 P w K mg base N x (defScope st) f cdv A outer s H E).nox) → GX X k → sp vs H Q E → WSs X (defBody st) { nx := fun _ H' => Q .non H', rt := Q } (L2.start N vs) H) :
    DefOk P w K mg base (k + 1) x sp := by
  obtain ⟨fd, F⟩ := T.says.def_ j hj
  exact ⟨_, hg, F.kp, K31.def_ok (st := st) F (F.bindsN hb) S len fun X vs H Q E ⟨cdv, A, outer, s, e⟩ => hbody X vs H Q E ⟨_, cdv, A, outer, s, e⟩⟩
end
section
variable {K : PySem.W.Frag} {mg : Str → Option Value}
theorem Tx.n_isinstance (T : Tx K mg) : mg "isinstance" = none := T.free 0 rfl
theorem Tx.n_int (T : Tx K mg) : mg "int" = none := T.free 1 rfl
theorem Tx.n_bool (T : Tx K mg) : mg "bool" = none := T.free 2 rfl
theorem Tx.n_tuple (T : Tx K mg) : mg "tuple" = none := T.free 3 rfl
theorem Tx.n_str (T : Tx K mg) : mg "str" = none := T.free 4 rfl
theorem Tx.n_all (T : Tx K mg) : mg "all" = none := T.free 5 rfl
theorem Tx.n_len (T : Tx K mg) : mg "len" = none := T.free 6 rfl
theorem Tx.n_zip (T : Tx K mg) : mg "zip" = none := T.free 7 rfl
theorem Tx.n_enumerate (T : Tx K mg) : mg "enumerate" = none := T.free 8 rfl
theorem Tx.n_range (T : Tx K mg) : mg "range" = none := T.free 9 rfl
theorem Tx.n_abs (T : Tx K mg) : mg "abs" = none := T.free 10 rfl
theorem Tx.n_max (T : Tx K mg) : mg "max" = none := T.free 11 rfl
theorem Tx.n_min (T : Tx K mg) : mg "min" = none := T.free 12 rfl
theorem Tx.n_list (T : Tx K mg) : mg "list" = none := T.free 13 rfl
theorem Tx.n_sorted (T : Tx K mg) : mg "sorted" = none := T.free 14 rfl
theorem Tx.n_set (T : Tx K mg) : mg "set" = none := T.free 15 rfl
theorem Tx.n_sum (T : Tx K mg) : mg "sum" = none := T.free 16 rfl
theorem Tx.n_repr (T : Tx K mg) : mg "repr" = none := T.free 17 rfl
theorem Tx.c_PAIR (T : Tx K mg) : ∃ t, mg "PAIR" = some (.int 2 t) := T.int 18 rfl
theorem Tx.c_MOST_ROWS (T : Tx K mg) : ∃ t, mg "MOST_ROWS" = some (.int 10 t) := T.int 19 rfl
theorem Tx.c_MOST_COLUMNS (T : Tx K mg) : ∃ t, mg "MOST_COLUMNS" = some (.int 10 t) := T.int 20 rfl
theorem Tx.c_MOST_PICTURES (T : Tx K mg) : ∃ t, mg "MOST_PICTURES" = some (.int 12 t) := T.int 21 rfl
theorem Tx.c_MOST_LOOKS (T : Tx K mg) : ∃ t, mg "MOST_LOOKS" = some (.int 12 t) := T.int 22 rfl
theorem Tx.c_MOST_FILMS (T : Tx K mg) : ∃ t, mg "MOST_FILMS" = some (.int 6 t) := T.int 23 rfl
theorem Tx.c_MOST_TOGETHER (T : Tx K mg) : ∃ t, mg "MOST_TOGETHER" = some (.int 24 t) := T.int 24 rfl
theorem Tx.c_MOST_DEAD (T : Tx K mg) : ∃ t, mg "MOST_DEAD" = some (.int 20 t) := T.int 25 rfl
theorem Tx.c_DOT (T : Tx K mg) : ∃ t, mg "DOT" = some (.str "o" t) := T.str 26 rfl
theorem Tx.c_GAP (T : Tx K mg) : ∃ t, mg "GAP" = some (.str "." t) := T.str 27 rfl
theorem Tx.c_ROW (T : Tx K mg) : ∃ t, mg "ROW" = some (.str "row" t) := T.str 28 rfl
theorem Tx.c_COLUMN (T : Tx K mg) : ∃ t, mg "COLUMN" = some (.str "column" t) := T.str 29 rfl
theorem Tx.c_LONE (T : Tx K mg) : ∃ t, mg "LONE" = some (.str "lone" t) := T.str 30 rfl
theorem Tx.g_is_integer (T : Tx K mg) : mg "is_integer" = some (.ref (He.ga K "is_integer")) := T.glo 31 rfl
theorem Tx.g_is_rising (T : Tx K mg) : mg "is_rising" = some (.ref (He.ga K "is_rising")) := T.glo 32 rfl
theorem Tx.g_is_tuple (T : Tx K mg) : mg "is_tuple" = some (.ref (He.ga K "is_tuple")) := T.glo 33 rfl
theorem Tx.g_is_pair (T : Tx K mg) : mg "is_pair" = some (.ref (He.ga K "is_pair")) := T.glo 34 rfl
theorem Tx.g_is_row (T : Tx K mg) : mg "is_row" = some (.ref (He.ga K "is_row")) := T.glo 35 rfl
theorem Tx.g_are_rows (T : Tx K mg) : mg "are_rows" = some (.ref (He.ga K "are_rows")) := T.glo 36 rfl
theorem Tx.g_left_end (T : Tx K mg) : mg "left_end" = some (.ref (He.ga K "left_end")) := T.glo 37 rfl
theorem Tx.g_right_end (T : Tx K mg) : mg "right_end" = some (.ref (He.ga K "right_end")) := T.glo 38 rfl
theorem Tx.g_neighbours (T : Tx K mg) : mg "neighbours" = some (.ref (He.ga K "neighbours")) := T.glo 39 rfl
theorem Tx.g_grow (T : Tx K mg) : mg "grow" = some (.ref (He.ga K "grow")) := T.glo 40 rfl
theorem Tx.g_matched (T : Tx K mg) : mg "matched" = some (.ref (He.ga K "matched")) := T.glo 41 rfl
theorem Tx.g_is_barred (T : Tx K mg) : mg "is_barred" = some (.ref (He.ga K "is_barred")) := T.glo 42 rfl
theorem Tx.g_fewest_of (T : Tx K mg) : mg "fewest_of" = some (.ref (He.ga K "fewest_of")) := T.glo 43 rfl
theorem Tx.g_are_dots (T : Tx K mg) : mg "are_dots" = some (.ref (He.ga K "are_dots")) := T.glo 44 rfl
theorem Tx.g_are_pictures (T : Tx K mg) : mg "are_pictures" = some (.ref (He.ga K "are_pictures")) := T.glo 45 rfl
theorem Tx.g_is_look (T : Tx K mg) : mg "is_look" = some (.ref (He.ga K "is_look")) := T.glo 46 rfl
theorem Tx.g_check_seen (T : Tx K mg) : mg "check_seen" = some (.ref (He.ga K "check_seen")) := T.glo 47 rfl
theorem Tx.g_check_films (T : Tx K mg) : mg "check_films" = some (.ref (He.ga K "check_films")) := T.glo 48 rfl
theorem Tx.g_check_k (T : Tx K mg) : mg "check_k" = some (.ref (He.ga K "check_k")) := T.glo 49 rfl
theorem Tx.g_truths_of (T : Tx K mg) : mg "truths_of" = some (.ref (He.ga K "truths_of")) := T.glo 50 rfl
theorem Tx.g_wires_at (T : Tx K mg) : mg "wires_at" = some (.ref (He.ga K "wires_at")) := T.glo 51 rfl
theorem Tx.g_strays (T : Tx K mg) : mg "strays" = some (.ref (He.ga K "strays")) := T.glo 52 rfl
theorem Tx.g_missing (T : Tx K mg) : mg "missing" = some (.ref (He.ga K "missing")) := T.glo 53 rfl
theorem Tx.g_edges_of (T : Tx K mg) : mg "edges_of" = some (.ref (He.ga K "edges_of")) := T.glo 54 rfl
theorem Tx.g_accounts (T : Tx K mg) : mg "accounts" = some (.ref (He.ga K "accounts")) := T.glo 55 rfl
theorem Tx.g_told (T : Tx K mg) : mg "told" = some (.ref (He.ga K "told")) := T.glo 56 rfl
theorem Tx.g_least_dead (T : Tx K mg) : mg "least_dead" = some (.ref (He.ga K "least_dead")) := T.glo 57 rfl
theorem Tx.g__law_pot (T : Tx K mg) : mg "_law_pot" = some (.ref (He.ga K "_law_pot")) := T.glo 58 rfl
theorem Tx.g__law_take (T : Tx K mg) : mg "_law_take" = some (.ref (He.ga K "_law_take")) := T.glo 59 rfl
theorem Tx.g__law_of (T : Tx K mg) : mg "_law_of" = some (.ref (He.ga K "_law_of")) := T.glo 60 rfl
theorem Tx.g__law_some (T : Tx K mg) : mg "_law_some" = some (.ref (He.ga K "_law_some")) := T.glo 61 rfl
theorem Tx.g__law_part (T : Tx K mg) : mg "_law_part" = some (.ref (He.ga K "_law_part")) := T.glo 62 rfl
theorem Tx.g__law_rows (T : Tx K mg) : mg "_law_rows" = some (.ref (He.ga K "_law_rows")) := T.glo 63 rfl
theorem Tx.g__law_dots (T : Tx K mg) : mg "_law_dots" = some (.ref (He.ga K "_law_dots")) := T.glo 64 rfl
theorem Tx.g__law_lit (T : Tx K mg) : mg "_law_lit" = some (.ref (He.ga K "_law_lit")) := T.glo 65 rfl
theorem Tx.g__law_film (T : Tx K mg) : mg "_law_film" = some (.ref (He.ga K "_law_film")) := T.glo 66 rfl
theorem Tx.g__law_near_film (T : Tx K mg) : mg "_law_near_film" = some (.ref (He.ga K "_law_near_film")) := T.glo 67 rfl
theorem Tx.g__law_dead (T : Tx K mg) : mg "_law_dead" = some (.ref (He.ga K "_law_dead")) := T.glo 68 rfl
theorem Tx.g__law_is_met (T : Tx K mg) : mg "_law_is_met" = some (.ref (He.ga K "_law_is_met")) := T.glo 69 rfl
theorem Tx.g__law_left (T : Tx K mg) : mg "_law_left" = some (.ref (He.ga K "_law_left")) := T.glo 70 rfl
theorem Tx.g__law_shown (T : Tx K mg) : mg "_law_shown" = some (.ref (He.ga K "_law_shown")) := T.glo 71 rfl
theorem Tx.g__law_made_film (T : Tx K mg) : mg "_law_made_film" = some (.ref (He.ga K "_law_made_film")) := T.glo 72 rfl
theorem Tx.g__law_made_seen (T : Tx K mg) : mg "_law_made_seen" = some (.ref (He.ga K "_law_made_seen")) := T.glo 73 rfl
theorem Tx.g__law_far_looks (T : Tx K mg) : mg "_law_far_looks" = some (.ref (He.ga K "_law_far_looks")) := T.glo 74 rfl
theorem Tx.g__law_wires_of (T : Tx K mg) : mg "_law_wires_of" = some (.ref (He.ga K "_law_wires_of")) := T.glo 75 rfl
theorem Tx.g__law_dead_of (T : Tx K mg) : mg "_law_dead_of" = some (.ref (He.ga K "_law_dead_of")) := T.glo 76 rfl
theorem Tx.g__law_seen_while_dying (T : Tx K mg) : mg "_law_seen_while_dying" = some (.ref (He.ga K "_law_seen_while_dying")) := T.glo 77 rfl
theorem Tx.g__law_bent_seen (T : Tx K mg) : mg "_law_bent_seen" = some (.ref (He.ga K "_law_bent_seen")) := T.glo 78 rfl
theorem Tx.g__law_drawn_seen (T : Tx K mg) : mg "_law_drawn_seen" = some (.ref (He.ga K "_law_drawn_seen")) := T.glo 79 rfl
theorem Tx.g__law_lit_at (T : Tx K mg) : mg "_law_lit_at" = some (.ref (He.ga K "_law_lit_at")) := T.glo 80 rfl
theorem Tx.g__law_last_lit (T : Tx K mg) : mg "_law_last_lit" = some (.ref (He.ga K "_law_last_lit")) := T.glo 81 rfl
theorem Tx.g__law_may_be_dead (T : Tx K mg) : mg "_law_may_be_dead" = some (.ref (He.ga K "_law_may_be_dead")) := T.glo 82 rfl
theorem Tx.g__law_first_stray (T : Tx K mg) : mg "_law_first_stray" = some (.ref (He.ga K "_law_first_stray")) := T.glo 83 rfl
theorem Tx.g__law_missing (T : Tx K mg) : mg "_law_missing" = some (.ref (He.ga K "_law_missing")) := T.glo 84 rfl
theorem Tx.g__law_demands (T : Tx K mg) : mg "_law_demands" = some (.ref (He.ga K "_law_demands")) := T.glo 85 rfl
theorem Tx.g__law_grown (T : Tx K mg) : mg "_law_grown" = some (.ref (He.ga K "_law_grown")) := T.glo 86 rfl
theorem Tx.g__law_apart_edges (T : Tx K mg) : mg "_law_apart_edges" = some (.ref (He.ga K "_law_apart_edges")) := T.glo 87 rfl
theorem Tx.g__law_fewest_of (T : Tx K mg) : mg "_law_fewest_of" = some (.ref (He.ga K "_law_fewest_of")) := T.glo 88 rfl
theorem Tx.g__law_t_films (T : Tx K mg) : mg "_law_t_films" = some (.ref (He.ga K "_law_t_films")) := T.glo 89 rfl
theorem Tx.g__law_t_begun (T : Tx K mg) : mg "_law_t_begun" = some (.ref (He.ga K "_law_t_begun")) := T.glo 90 rfl
theorem Tx.g__law_t_truths (T : Tx K mg) : mg "_law_t_truths" = some (.ref (He.ga K "_law_t_truths")) := T.glo 91 rfl
theorem Tx.g__law_t_made_films (T : Tx K mg) : mg "_law_t_made_films" = some (.ref (He.ga K "_law_t_made_films")) := T.glo 92 rfl
theorem Tx.g__law_fewest_all (T : Tx K mg) : mg "_law_fewest_all" = some (.ref (He.ga K "_law_fewest_all")) := T.glo 93 rfl
theorem Tx.g__law_right (T : Tx K mg) : mg "_law_right" = some (.ref (He.ga K "_law_right")) := T.glo 94 rfl
theorem Tx.g_law (T : Tx K mg) : mg "law" = some (.ref (He.ga K "law")) := T.glo 95 rfl
theorem Tx.g_Board (T : Tx K mg) : mg "Board" = some (.ref (He.ga K "Board")) := T.glo 96 rfl
theorem Tx.g_Picture (T : Tx K mg) : mg "Picture" = some (.ref (He.ga K "Picture")) := T.glo 97 rfl
theorem Tx.g_Film (T : Tx K mg) : mg "Film" = some (.ref (He.ga K "Film")) := T.glo 98 rfl
theorem Tx.g_Living (T : Tx K mg) : mg "Living" = some (.ref (He.ga K "Living")) := T.glo 99 rfl
theorem Tx.g_Account (T : Tx K mg) : mg "Account" = some (.ref (He.ga K "Account")) := T.glo 100 rfl
end
section
variable {P : Program} {w : World}
variable {K : PySem.W.Frag} {mg : Str → Option Value} {base : Heap}
abbrev N_is_integer : List Str := ["value", "least", "most"]
theorem sc_is_integer : FnScope N_is_integer ["value", "least", "most"] (defScope s_is_integer) := ⟨rfl, rfl, rfl, by decide +kernel, rfl, by decide +kernel, by decide +kernel⟩
abbrev N_is_rising : List Str := ["things", "one", "other"]
theorem sc_is_rising : FnScope N_is_rising ["things"] (defScope s_is_rising) := ⟨rfl, rfl, rfl, by decide +kernel, rfl, by decide +kernel, by decide +kernel⟩
theorem Tx.d_is_rising (T : Tx K mg) {k : Nat} {sp : Sp} (len : ∀ vs H Q E, sp vs H Q E → vs.length = 1)
    (hbody : ∀ (X : Cx) (vs : List V) (H : Hp) (Q : VK) (E : XK), (∃ f cdv A outer s, X = (cxOf CX0 P w K mg base N_is_rising "is_rising" (defScope s_is_rising) f cdv A outer s H E).nox) → GX X k → sp vs H Q E → WSs X (defBody s_is_rising) { nx := fun _ H' => Q .non H', rt := Q } (L2.start N_is_rising vs) H) :
    DefOk P w K mg base (k + 1) "is_rising" sp := T.defOk T.g_is_rising 1 rfl (fun _ _ _ _ _ _ us hl => match us, hl with | [_], _ => rfl) sc_is_rising len hbody
abbrev N_is_tuple : List Str := ["value", "most"]
theorem sc_is_tuple : FnScope N_is_tuple ["value", "most"] (defScope s_is_tuple) := ⟨rfl, rfl, rfl, by decide +kernel, rfl, by decide +kernel, by decide +kernel⟩
theorem Tx.d_is_tuple (T : Tx K mg) {k : Nat} {sp : Sp} (len : ∀ vs H Q E, sp vs H Q E → vs.length = 2)
    (hbody : ∀ (X : Cx) (vs : List V) (H : Hp) (Q : VK) (E : XK), (∃ f cdv A outer s, X = (cxOf CX0 P w K mg base N_is_tuple "is_tuple" (defScope s_is_tuple) f cdv A outer s H E).nox) → GX X k → sp vs H Q E → WSs X (defBody s_is_tuple) { nx := fun _ H' => Q .non H', rt := Q } (L2.start N_is_tuple vs) H) :
    DefOk P w K mg base (k + 1) "is_tuple" sp := T.defOk T.g_is_tuple 2 rfl (fun _ _ _ _ _ _ us hl => match us, hl with | [_, _], _ => rfl) sc_is_tuple len hbody
abbrev N_is_pair : List Str := ["value"]
theorem sc_is_pair : FnScope N_is_pair ["value"] (defScope s_is_pair) := ⟨rfl, rfl, rfl, by decide +kernel, rfl, by decide +kernel, by decide +kernel⟩
theorem Tx.d_is_pair (T : Tx K mg) {k : Nat} {sp : Sp} (len : ∀ vs H Q E, sp vs H Q E → vs.length = 1)
    (hbody : ∀ (X : Cx) (vs : List V) (H : Hp) (Q : VK) (E : XK), (∃ f cdv A outer s, X = (cxOf CX0 P w K mg base N_is_pair "is_pair" (defScope s_is_pair) f cdv A outer s H E).nox) → GX X k → sp vs H Q E → WSs X (defBody s_is_pair) { nx := fun _ H' => Q .non H', rt := Q } (L2.start N_is_pair vs) H) :
    DefOk P w K mg base (k + 1) "is_pair" sp := T.defOk T.g_is_pair 3 rfl (fun _ _ _ _ _ _ us hl => match us, hl with | [_], _ => rfl) sc_is_pair len hbody
abbrev N_is_row : List Str := ["value", "width", "sign"]
theorem sc_is_row : FnScope N_is_row ["value", "width"] (defScope s_is_row) := ⟨rfl, rfl, rfl, by decide +kernel, rfl, by decide +kernel, by decide +kernel⟩
theorem Tx.d_is_row (T : Tx K mg) {k : Nat} {sp : Sp} (len : ∀ vs H Q E, sp vs H Q E → vs.length = 2)
    (hbody : ∀ (X : Cx) (vs : List V) (H : Hp) (Q : VK) (E : XK), (∃ f cdv A outer s, X = (cxOf CX0 P w K mg base N_is_row "is_row" (defScope s_is_row) f cdv A outer s H E).nox) → GX X k → sp vs H Q E → WSs X (defBody s_is_row) { nx := fun _ H' => Q .non H', rt := Q } (L2.start N_is_row vs) H) :
    DefOk P w K mg base (k + 1) "is_row" sp := T.defOk T.g_is_row 4 rfl (fun _ _ _ _ _ _ us hl => match us, hl with | [_, _], _ => rfl) sc_is_row len hbody
abbrev N_are_rows : List Str := ["value", "width", "row", "column"]
theorem sc_are_rows : FnScope N_are_rows ["value"] (defScope s_are_rows) := ⟨rfl, rfl, rfl, by decide +kernel, rfl, by decide +kernel, by decide +kernel⟩
theorem Tx.d_are_rows (T : Tx K mg) {k : Nat} {sp : Sp} (len : ∀ vs H Q E, sp vs H Q E → vs.length = 1)
    (hbody : ∀ (X : Cx) (vs : List V) (H : Hp) (Q : VK) (E : XK), (∃ f cdv A outer s, X = (cxOf CX0 P w K mg base N_are_rows "are_rows" (defScope s_are_rows) f cdv A outer s H E).nox) → GX X k → sp vs H Q E → WSs X (defBody s_are_rows) { nx := fun _ H' => Q .non H', rt := Q } (L2.start N_are_rows vs) H) :
    DefOk P w K mg base (k + 1) "are_rows" sp := T.defOk T.g_are_rows 5 rfl (fun _ _ _ _ _ _ us hl => match us, hl with | [_], _ => rfl) sc_are_rows len hbody
abbrev N_left_end : List Str := ["edge"]
theorem sc_left_end : FnScope N_left_end ["edge"] (defScope s_left_end) := ⟨rfl, rfl, rfl, by decide +kernel, rfl, by decide +kernel, by decide +kernel⟩
theorem Tx.d_left_end (T : Tx K mg) {k : Nat} {sp : Sp} (len : ∀ vs H Q E, sp vs H Q E → vs.length = 1)
    (hbody : ∀ (X : Cx) (vs : List V) (H : Hp) (Q : VK) (E : XK), (∃ f cdv A outer s, X = (cxOf CX0 P w K mg base N_left_end "left_end" (defScope s_left_end) f cdv A outer s H E).nox) → GX X k → sp vs H Q E → WSs X (defBody s_left_end) { nx := fun _ H' => Q .non H', rt := Q } (L2.start N_left_end vs) H) :
    DefOk P w K mg base (k + 1) "left_end" sp := T.defOk T.g_left_end 6 rfl (fun _ _ _ _ _ _ us hl => match us, hl with | [_], _ => rfl) sc_left_end len hbody
abbrev N_right_end : List Str := ["edge"]
theorem sc_right_end : FnScope N_right_end ["edge"] (defScope s_right_end) := ⟨rfl, rfl, rfl, by decide +kernel, rfl, by decide +kernel, by decide +kernel⟩
theorem Tx.d_right_end (T : Tx K mg) {k : Nat} {sp : Sp} (len : ∀ vs H Q E, sp vs H Q E → vs.length = 1)
    (hbody : ∀ (X : Cx) (vs : List V) (H : Hp) (Q : VK) (E : XK), (∃ f cdv A outer s, X = (cxOf CX0 P w K mg base N_right_end "right_end" (defScope s_right_end) f cdv A outer s H E).nox) → GX X k → sp vs H Q E → WSs X (defBody s_right_end) { nx := fun _ H' => Q .non H', rt := Q } (L2.start N_right_end vs) H) :
    DefOk P w K mg base (k + 1) "right_end" sp := T.defOk T.g_right_end 7 rfl (fun _ _ _ _ _ _ us hl => match us, hl with | [_], _ => rfl) sc_right_end len hbody
abbrev N_neighbours : List Str := ["edges", "found", "edge"]
theorem sc_neighbours : FnScope N_neighbours ["edges"] (defScope s_neighbours) := ⟨rfl, rfl, rfl, by decide +kernel, rfl, by decide +kernel, by decide +kernel⟩
theorem Tx.d_neighbours (T : Tx K mg) {k : Nat} {sp : Sp} (len : ∀ vs H Q E, sp vs H Q E → vs.length = 1)
    (hbody : ∀ (X : Cx) (vs : List V) (H : Hp) (Q : VK) (E : XK), (∃ f cdv A outer s, X = (cxOf CX0 P w K mg base N_neighbours "neighbours" (defScope s_neighbours) f cdv A outer s H E).nox) → GX X k → sp vs H Q E → WSs X (defBody s_neighbours) { nx := fun _ H' => Q .non H', rt := Q } (L2.start N_neighbours vs) H) :
    DefOk P w K mg base (k + 1) "neighbours" sp := T.defOk T.g_neighbours 8 rfl (fun _ _ _ _ _ _ us hl => match us, hl with | [_], _ => rfl) sc_neighbours len hbody
abbrev N_grow : List Str := ["near", "lefts", "left", "tried", "right"]
theorem sc_grow : FnScope N_grow ["near", "lefts", "left", "tried"] (defScope s_grow) := ⟨rfl, rfl, rfl, by decide +kernel, rfl, by decide +kernel, by decide +kernel⟩
theorem Tx.d_grow (T : Tx K mg) {k : Nat} {sp : Sp} (len : ∀ vs H Q E, sp vs H Q E → vs.length = 4)
    (hbody : ∀ (X : Cx) (vs : List V) (H : Hp) (Q : VK) (E : XK), (∃ f cdv A outer s, X = (cxOf CX0 P w K mg base N_grow "grow" (defScope s_grow) f cdv A outer s H E).nox) → GX X k → sp vs H Q E → WSs X (defBody s_grow) { nx := fun _ H' => Q .non H', rt := Q } (L2.start N_grow vs) H) :
    DefOk P w K mg base (k + 1) "grow" sp := T.defOk T.g_grow 9 rfl (fun _ _ _ _ _ _ us hl => match us, hl with | [_, _, _, _], _ => rfl) sc_grow len hbody
abbrev N_matched : List Str := ["near", "lefts", "left"]
theorem sc_matched : FnScope N_matched ["near"] (defScope s_matched) := ⟨rfl, rfl, rfl, by decide +kernel, rfl, by decide +kernel, by decide +kernel⟩
theorem Tx.d_matched (T : Tx K mg) {k : Nat} {sp : Sp} (len : ∀ vs H Q E, sp vs H Q E → vs.length = 1)
    (hbody : ∀ (X : Cx) (vs : List V) (H : Hp) (Q : VK) (E : XK), (∃ f cdv A outer s, X = (cxOf CX0 P w K mg base N_matched "matched" (defScope s_matched) f cdv A outer s H E).nox) → GX X k → sp vs H Q E → WSs X (defBody s_matched) { nx := fun _ H' => Q .non H', rt := Q } (L2.start N_matched vs) H) :
    DefOk P w K mg base (k + 1) "matched" sp := T.defOk T.g_matched 10 rfl (fun _ _ _ _ _ _ us hl => match us, hl with | [_], _ => rfl) sc_matched len hbody
abbrev N_is_barred : List Str := ["edges"]
theorem sc_is_barred : FnScope N_is_barred ["edges"] (defScope s_is_barred) := ⟨rfl, rfl, rfl, by decide +kernel, rfl, by decide +kernel, by decide +kernel⟩
theorem Tx.d_is_barred (T : Tx K mg) {k : Nat} {sp : Sp} (len : ∀ vs H Q E, sp vs H Q E → vs.length = 1)
    (hbody : ∀ (X : Cx) (vs : List V) (H : Hp) (Q : VK) (E : XK), (∃ f cdv A outer s, X = (cxOf CX0 P w K mg base N_is_barred "is_barred" (defScope s_is_barred) f cdv A outer s H E).nox) → GX X k → sp vs H Q E → WSs X (defBody s_is_barred) { nx := fun _ H' => Q .non H', rt := Q } (L2.start N_is_barred vs) H) :
    DefOk P w K mg base (k + 1) "is_barred" sp := T.defOk T.g_is_barred 11 rfl (fun _ _ _ _ _ _ us hl => match us, hl with | [_], _ => rfl) sc_is_barred len hbody
abbrev N_fewest_of : List Str := ["edges"]
theorem sc_fewest_of : FnScope N_fewest_of ["edges"] (defScope s_fewest_of) := ⟨rfl, rfl, rfl, by decide +kernel, rfl, by decide +kernel, by decide +kernel⟩
theorem Tx.d_fewest_of (T : Tx K mg) {k : Nat} {sp : Sp} (len : ∀ vs H Q E, sp vs H Q E → vs.length = 1)
    (hbody : ∀ (X : Cx) (vs : List V) (H : Hp) (Q : VK) (E : XK), (∃ f cdv A outer s, X = (cxOf CX0 P w K mg base N_fewest_of "fewest_of" (defScope s_fewest_of) f cdv A outer s H E).nox) → GX X k → sp vs H Q E → WSs X (defBody s_fewest_of) { nx := fun _ H' => Q .non H', rt := Q } (L2.start N_fewest_of vs) H) :
    DefOk P w K mg base (k + 1) "fewest_of" sp := T.defOk T.g_fewest_of 12 rfl (fun _ _ _ _ _ _ us hl => match us, hl with | [_], _ => rfl) sc_fewest_of len hbody
abbrev N_are_dots : List Str := ["board", "value", "dot"]
theorem sc_are_dots : FnScope N_are_dots ["board", "value"] (defScope s_are_dots) := ⟨rfl, rfl, rfl, by decide +kernel, rfl, by decide +kernel, by decide +kernel⟩
theorem Tx.d_are_dots (T : Tx K mg) {k : Nat} {sp : Sp} (len : ∀ vs H Q E, sp vs H Q E → vs.length = 2)
    (hbody : ∀ (X : Cx) (vs : List V) (H : Hp) (Q : VK) (E : XK), (∃ f cdv A outer s, X = (cxOf CX0 P w K mg base N_are_dots "are_dots" (defScope s_are_dots) f cdv A outer s H E).nox) → GX X k → sp vs H Q E → WSs X (defBody s_are_dots) { nx := fun _ H' => Q .non H', rt := Q } (L2.start N_are_dots vs) H) :
    DefOk P w K mg base (k + 1) "are_dots" sp := T.defOk T.g_are_dots 13 rfl (fun _ _ _ _ _ _ us hl => match us, hl with | [_, _], _ => rfl) sc_are_dots len hbody
abbrev N_are_pictures : List Str := ["value", "picture"]
theorem sc_are_pictures : FnScope N_are_pictures ["value"] (defScope s_are_pictures) := ⟨rfl, rfl, rfl, by decide +kernel, rfl, by decide +kernel, by decide +kernel⟩
theorem Tx.d_are_pictures (T : Tx K mg) {k : Nat} {sp : Sp} (len : ∀ vs H Q E, sp vs H Q E → vs.length = 1)
    (hbody : ∀ (X : Cx) (vs : List V) (H : Hp) (Q : VK) (E : XK), (∃ f cdv A outer s, X = (cxOf CX0 P w K mg base N_are_pictures "are_pictures" (defScope s_are_pictures) f cdv A outer s H E).nox) → GX X k → sp vs H Q E → WSs X (defBody s_are_pictures) { nx := fun _ H' => Q .non H', rt := Q } (L2.start N_are_pictures vs) H) :
    DefOk P w K mg base (k + 1) "are_pictures" sp := T.defOk T.g_are_pictures 14 rfl (fun _ _ _ _ _ _ us hl => match us, hl with | [_], _ => rfl) sc_are_pictures len hbody
abbrev N_is_look : List Str := ["board", "value"]
theorem sc_is_look : FnScope N_is_look ["board", "value"] (defScope s_is_look) := ⟨rfl, rfl, rfl, by decide +kernel, rfl, by decide +kernel, by decide +kernel⟩
theorem Tx.d_is_look (T : Tx K mg) {k : Nat} {sp : Sp} (len : ∀ vs H Q E, sp vs H Q E → vs.length = 2)
    (hbody : ∀ (X : Cx) (vs : List V) (H : Hp) (Q : VK) (E : XK), (∃ f cdv A outer s, X = (cxOf CX0 P w K mg base N_is_look "is_look" (defScope s_is_look) f cdv A outer s H E).nox) → GX X k → sp vs H Q E → WSs X (defBody s_is_look) { nx := fun _ H' => Q .non H', rt := Q } (L2.start N_is_look vs) H) :
    DefOk P w K mg base (k + 1) "is_look" sp := T.defOk T.g_is_look 15 rfl (fun _ _ _ _ _ _ us hl => match us, hl with | [_, _], _ => rfl) sc_is_look len hbody
abbrev N_check_seen : List Str := ["board", "value", "look", "tick", "picture"]
theorem sc_check_seen : FnScope N_check_seen ["board", "value"] (defScope s_check_seen) := ⟨rfl, rfl, rfl, by decide +kernel, rfl, by decide +kernel, by decide +kernel⟩
theorem Tx.d_check_seen (T : Tx K mg) {k : Nat} {sp : Sp} (len : ∀ vs H Q E, sp vs H Q E → vs.length = 2)
    (hbody : ∀ (X : Cx) (vs : List V) (H : Hp) (Q : VK) (E : XK), (∃ f cdv A outer s, X = (cxOf CX0 P w K mg base N_check_seen "check_seen" (defScope s_check_seen) f cdv A outer s H E).nox) → GX X k → sp vs H Q E → WSs X (defBody s_check_seen) { nx := fun _ H' => Q .non H', rt := Q } (L2.start N_check_seen vs) H) :
    DefOk P w K mg base (k + 1) "check_seen" sp := T.defOk T.g_check_seen 16 rfl (fun _ _ _ _ _ _ us hl => match us, hl with | [_, _], _ => rfl) sc_check_seen len hbody
abbrev N_check_films : List Str := ["films", "film"]
theorem sc_check_films : FnScope N_check_films ["films"] (defScope s_check_films) := ⟨rfl, rfl, rfl, by decide +kernel, rfl, by decide +kernel, by decide +kernel⟩
theorem Tx.d_check_films (T : Tx K mg) {k : Nat} {sp : Sp} (len : ∀ vs H Q E, sp vs H Q E → vs.length = 1)
    (hbody : ∀ (X : Cx) (vs : List V) (H : Hp) (Q : VK) (E : XK), (∃ f cdv A outer s, X = (cxOf CX0 P w K mg base N_check_films "check_films" (defScope s_check_films) f cdv A outer s H E).nox) → GX X k → sp vs H Q E → WSs X (defBody s_check_films) { nx := fun _ H' => Q .non H', rt := Q } (L2.start N_check_films vs) H) :
    DefOk P w K mg base (k + 1) "check_films" sp := T.defOk T.g_check_films 17 rfl (fun _ _ _ _ _ _ us hl => match us, hl with | [_], _ => rfl) sc_check_films len hbody
abbrev N_check_k : List Str := ["value", "most"]
theorem sc_check_k : FnScope N_check_k ["value", "most"] (defScope s_check_k) := ⟨rfl, rfl, rfl, by decide +kernel, rfl, by decide +kernel, by decide +kernel⟩
theorem Tx.d_check_k (T : Tx K mg) {k : Nat} {sp : Sp} (len : ∀ vs H Q E, sp vs H Q E → vs.length = 2)
    (hbody : ∀ (X : Cx) (vs : List V) (H : Hp) (Q : VK) (E : XK), (∃ f cdv A outer s, X = (cxOf CX0 P w K mg base N_check_k "check_k" (defScope s_check_k) f cdv A outer s H E).nox) → GX X k → sp vs H Q E → WSs X (defBody s_check_k) { nx := fun _ H' => Q .non H', rt := Q } (L2.start N_check_k vs) H) :
    DefOk P w K mg base (k + 1) "check_k" sp := T.defOk T.g_check_k 18 rfl (fun _ _ _ _ _ _ us hl => match us, hl with | [_, _], _ => rfl) sc_check_k len hbody
abbrev N_truths_of : List Str := ["films", "number", "film", "begin"]
theorem sc_truths_of : FnScope N_truths_of ["films"] (defScope s_truths_of) := ⟨rfl, rfl, rfl, by decide +kernel, rfl, by decide +kernel, by decide +kernel⟩
theorem Tx.d_truths_of (T : Tx K mg) {k : Nat} {sp : Sp} (len : ∀ vs H Q E, sp vs H Q E → vs.length = 1)
    (hbody : ∀ (X : Cx) (vs : List V) (H : Hp) (Q : VK) (E : XK), (∃ f cdv A outer s, X = (cxOf CX0 P w K mg base N_truths_of "truths_of" (defScope s_truths_of) f cdv A outer s H E).nox) → GX X k → sp vs H Q E → WSs X (defBody s_truths_of) { nx := fun _ H' => Q .non H', rt := Q } (L2.start N_truths_of vs) H) :
    DefOk P w K mg base (k + 1) "truths_of" sp := T.defOk T.g_truths_of 19 rfl (fun _ _ _ _ _ _ us hl => match us, hl with | [_], _ => rfl) sc_truths_of len hbody
abbrev N_wires_at : List Str := ["dot"]
theorem sc_wires_at : FnScope N_wires_at ["dot"] (defScope s_wires_at) := ⟨rfl, rfl, rfl, by decide +kernel, rfl, by decide +kernel, by decide +kernel⟩
theorem Tx.d_wires_at (T : Tx K mg) {k : Nat} {sp : Sp} (len : ∀ vs H Q E, sp vs H Q E → vs.length = 1)
    (hbody : ∀ (X : Cx) (vs : List V) (H : Hp) (Q : VK) (E : XK), (∃ f cdv A outer s, X = (cxOf CX0 P w K mg base N_wires_at "wires_at" (defScope s_wires_at) f cdv A outer s H E).nox) → GX X k → sp vs H Q E → WSs X (defBody s_wires_at) { nx := fun _ H' => Q .non H', rt := Q } (L2.start N_wires_at vs) H) :
    DefOk P w K mg base (k + 1) "wires_at" sp := T.defOk T.g_wires_at 20 rfl (fun _ _ _ _ _ _ us hl => match us, hl with | [_], _ => rfl) sc_wires_at len hbody
abbrev N_strays : List Str := ["film", "seen", "tick", "picture", "dot"]
theorem sc_strays : FnScope N_strays ["film", "seen"] (defScope s_strays) := ⟨rfl, rfl, rfl, by decide +kernel, rfl, by decide +kernel, by decide +kernel⟩
theorem Tx.d_strays (T : Tx K mg) {k : Nat} {sp : Sp} (len : ∀ vs H Q E, sp vs H Q E → vs.length = 2)
    (hbody : ∀ (X : Cx) (vs : List V) (H : Hp) (Q : VK) (E : XK), (∃ f cdv A outer s, X = (cxOf CX0 P w K mg base N_strays "strays" (defScope s_strays) f cdv A outer s H E).nox) → GX X k → sp vs H Q E → WSs X (defBody s_strays) { nx := fun _ H' => Q .non H', rt := Q } (L2.start N_strays vs) H) :
    DefOk P w K mg base (k + 1) "strays" sp := T.defOk T.g_strays 21 rfl (fun _ _ _ _ _ _ us hl => match us, hl with | [_, _], _ => rfl) sc_strays len hbody
abbrev N_missing : List Str := ["film", "seen", "tick", "picture", "dot"]
theorem sc_missing : FnScope N_missing ["film", "seen"] (defScope s_missing) := ⟨rfl, rfl, rfl, by decide +kernel, rfl, by decide +kernel, by decide +kernel⟩
theorem Tx.d_missing (T : Tx K mg) {k : Nat} {sp : Sp} (len : ∀ vs H Q E, sp vs H Q E → vs.length = 2)
    (hbody : ∀ (X : Cx) (vs : List V) (H : Hp) (Q : VK) (E : XK), (∃ f cdv A outer s, X = (cxOf CX0 P w K mg base N_missing "missing" (defScope s_missing) f cdv A outer s H E).nox) → GX X k → sp vs H Q E → WSs X (defBody s_missing) { nx := fun _ H' => Q .non H', rt := Q } (L2.start N_missing vs) H) :
    DefOk P w K mg base (k + 1) "missing" sp := T.defOk T.g_missing 22 rfl (fun _ _ _ _ _ _ us hl => match us, hl with | [_, _], _ => rfl) sc_missing len hbody
abbrev N_edges_of : List Str := ["film", "seen", "living", "found", "tick", "dot"]
theorem sc_edges_of : FnScope N_edges_of ["film", "seen", "living"] (defScope s_edges_of) := ⟨rfl, rfl, rfl, by decide +kernel, rfl, by decide +kernel, by decide +kernel⟩
theorem Tx.d_edges_of (T : Tx K mg) {k : Nat} {sp : Sp} (len : ∀ vs H Q E, sp vs H Q E → vs.length = 3)
    (hbody : ∀ (X : Cx) (vs : List V) (H : Hp) (Q : VK) (E : XK), (∃ f cdv A outer s, X = (cxOf CX0 P w K mg base N_edges_of "edges_of" (defScope s_edges_of) f cdv A outer s H E).nox) → GX X k → sp vs H Q E → WSs X (defBody s_edges_of) { nx := fun _ H' => Q .non H', rt := Q } (L2.start N_edges_of vs) H) :
    DefOk P w K mg base (k + 1) "edges_of" sp := T.defOk T.g_edges_of 23 rfl (fun _ _ _ _ _ _ us hl => match us, hl with | [_, _, _], _ => rfl) sc_edges_of len hbody
abbrev N_accounts : List Str := ["films", "seen", "dying", "found", "number", "begin", "film", "account", "least"]
theorem sc_accounts : FnScope N_accounts ["films", "seen", "dying"] (defScope s_accounts) := ⟨rfl, rfl, rfl, by decide +kernel, rfl, by decide +kernel, by decide +kernel⟩
theorem Tx.d_accounts (T : Tx K mg) {k : Nat} {sp : Sp} (len : ∀ vs H Q E, sp vs H Q E → vs.length = 3)
    (hbody : ∀ (X : Cx) (vs : List V) (H : Hp) (Q : VK) (E : XK), (∃ f cdv A outer s, X = (cxOf CX0 P w K mg base N_accounts "accounts" (defScope s_accounts) f cdv A outer s H E).nox) → GX X k → sp vs H Q E → WSs X (defBody s_accounts) { nx := fun _ H' => Q .non H', rt := Q } (L2.start N_accounts vs) H) :
    DefOk P w K mg base (k + 1) "accounts" sp := T.defOk T.g_accounts 24 rfl (fun _ _ _ _ _ _ us hl => match us, hl with | [_, _, _], _ => rfl) sc_accounts len hbody
abbrev N_told : List Str := ["films", "seen", "k", "dying", "truth", "account", "least"]
theorem sc_told : FnScope N_told ["films", "seen", "k", "dying"] (defScope s_told) := ⟨rfl, rfl, rfl, by decide +kernel, rfl, by decide +kernel, by decide +kernel⟩
abbrev N_least_dead : List Str := ["films", "seen", "dying", "truth", "account", "least"]
theorem sc_least_dead : FnScope N_least_dead ["films", "seen", "dying"] (defScope s_least_dead) := ⟨rfl, rfl, rfl, by decide +kernel, rfl, by decide +kernel, by decide +kernel⟩
abbrev N__law_pot : List Str := ["_law_script", "_law_number", "_law_cell", "_law_own", "_law_base"]
theorem sc__law_pot : FnScope N__law_pot ["_law_script", "_law_number"] (defScope s_law_pot) := ⟨rfl, rfl, rfl, by decide +kernel, rfl, by decide +kernel, by decide +kernel⟩
theorem Tx.d__law_pot (T : Tx K mg) {k : Nat} {sp : Sp} (len : ∀ vs H Q E, sp vs H Q E → vs.length = 2)
    (hbody : ∀ (X : Cx) (vs : List V) (H : Hp) (Q : VK) (E : XK), (∃ f cdv A outer s, X = (cxOf CX0 P w K mg base N__law_pot "_law_pot" (defScope s_law_pot) f cdv A outer s H E).nox) → GX X k → sp vs H Q E → WSs X (defBody s_law_pot) { nx := fun _ H' => Q .non H', rt := Q } (L2.start N__law_pot vs) H) :
    DefOk P w K mg base (k + 1) "_law_pot" sp := T.defOk T.g__law_pot 27 rfl (fun _ _ _ _ _ _ us hl => match us, hl with | [_, _], _ => rfl) sc__law_pot len hbody
abbrev N__law_take : List Str := ["_law_pot_here", "_law_upto", "_law_digit", "_law_prime", "_law_stirred"]
theorem sc__law_take : FnScope N__law_take ["_law_pot_here", "_law_upto"] (defScope s_law_take) := ⟨rfl, rfl, rfl, by decide +kernel, rfl, by decide +kernel, by decide +kernel⟩
theorem Tx.d__law_take (T : Tx K mg) {k : Nat} {sp : Sp} (len : ∀ vs H Q E, sp vs H Q E → vs.length = 2)
    (hbody : ∀ (X : Cx) (vs : List V) (H : Hp) (Q : VK) (E : XK), (∃ f cdv A outer s, X = (cxOf CX0 P w K mg base N__law_take "_law_take" (defScope s_law_take) f cdv A outer s H E).nox) → GX X k → sp vs H Q E → WSs X (defBody s_law_take) { nx := fun _ H' => Q .non H', rt := Q } (L2.start N__law_take vs) H) :
    DefOk P w K mg base (k + 1) "_law_take" sp := T.defOk T.g__law_take 28 rfl (fun _ _ _ _ _ _ us hl => match us, hl with | [_, _], _ => rfl) sc__law_take len hbody
abbrev N__law_of : List Str := ["_law_pot_here", "_law_some_here"]
theorem sc__law_of : FnScope N__law_of ["_law_pot_here", "_law_some_here"] (defScope s_law_of) := ⟨rfl, rfl, rfl, by decide +kernel, rfl, by decide +kernel, by decide +kernel⟩
theorem Tx.d__law_of (T : Tx K mg) {k : Nat} {sp : Sp} (len : ∀ vs H Q E, sp vs H Q E → vs.length = 2)
    (hbody : ∀ (X : Cx) (vs : List V) (H : Hp) (Q : VK) (E : XK), (∃ f cdv A outer s, X = (cxOf CX0 P w K mg base N__law_of "_law_of" (defScope s_law_of) f cdv A outer s H E).nox) → GX X k → sp vs H Q E → WSs X (defBody s_law_of) { nx := fun _ H' => Q .non H', rt := Q } (L2.start N__law_of vs) H) :
    DefOk P w K mg base (k + 1) "_law_of" sp := T.defOk T.g__law_of 29 rfl (fun _ _ _ _ _ _ us hl => match us, hl with | [_, _], _ => rfl) sc__law_of len hbody
abbrev N__law_some : List Str := ["_law_pot_here", "_law_pool", "_law_many", "_law_left_here", "_law_found", "_law_lap"]
theorem sc__law_some : FnScope N__law_some ["_law_pot_here", "_law_pool", "_law_many"] (defScope s_law_some) := ⟨rfl, rfl, rfl, by decide +kernel, rfl, by decide +kernel, by decide +kernel⟩
theorem Tx.d__law_some (T : Tx K mg) {k : Nat} {sp : Sp} (len : ∀ vs H Q E, sp vs H Q E → vs.length = 3)
    (hbody : ∀ (X : Cx) (vs : List V) (H : Hp) (Q : VK) (E : XK), (∃ f cdv A outer s, X = (cxOf CX0 P w K mg base N__law_some "_law_some" (defScope s_law_some) f cdv A outer s H E).nox) → GX X k → sp vs H Q E → WSs X (defBody s_law_some) { nx := fun _ H' => Q .non H', rt := Q } (L2.start N__law_some vs) H) :
    DefOk P w K mg base (k + 1) "_law_some" sp := T.defOk T.g__law_some 30 rfl (fun _ _ _ _ _ _ us hl => match us, hl with | [_, _, _], _ => rfl) sc__law_some len hbody
abbrev N__law_part : List Str := ["_law_pot_here", "_law_pool", "_law_odds", "_law_one"]
theorem sc__law_part : FnScope N__law_part ["_law_pot_here", "_law_pool", "_law_odds"] (defScope s_law_part) := ⟨rfl, rfl, rfl, by decide +kernel, rfl, by decide +kernel, by decide +kernel⟩
theorem Tx.d__law_part (T : Tx K mg) {k : Nat} {sp : Sp} (len : ∀ vs H Q E, sp vs H Q E → vs.length = 3)
    (hbody : ∀ (X : Cx) (vs : List V) (H : Hp) (Q : VK) (E : XK), (∃ f cdv A outer s, X = (cxOf CX0 P w K mg base N__law_part "_law_part" (defScope s_law_part) f cdv A outer s H E).nox) → GX X k → sp vs H Q E → WSs X (defBody s_law_part) { nx := fun _ H' => Q .non H', rt := Q } (L2.start N__law_part vs) H) :
    DefOk P w K mg base (k + 1) "_law_part" sp := T.defOk T.g__law_part 31 rfl (fun _ _ _ _ _ _ us hl => match us, hl with | [_, _, _], _ => rfl) sc__law_part len hbody
abbrev N__law_rows : List Str := ["_law_pot_here", "_law_tall", "_law_wide", "_law_way", "_law_rows_here", "_law_row", "_law_marks", "_law_column", "_law_is_there"]
theorem sc__law_rows : FnScope N__law_rows ["_law_pot_here", "_law_tall", "_law_wide"] (defScope s_law_rows) := ⟨rfl, rfl, rfl, by decide +kernel, rfl, by decide +kernel, by decide +kernel⟩
theorem Tx.d__law_rows (T : Tx K mg) {k : Nat} {sp : Sp} (len : ∀ vs H Q E, sp vs H Q E → vs.length = 3)
    (hbody : ∀ (X : Cx) (vs : List V) (H : Hp) (Q : VK) (E : XK), (∃ f cdv A outer s, X = (cxOf CX0 P w K mg base N__law_rows "_law_rows" (defScope s_law_rows) f cdv A outer s H E).nox) → GX X k → sp vs H Q E → WSs X (defBody s_law_rows) { nx := fun _ H' => Q .non H', rt := Q } (L2.start N__law_rows vs) H) :
    DefOk P w K mg base (k + 1) "_law_rows" sp := T.defOk T.g__law_rows 32 rfl (fun _ _ _ _ _ _ us hl => match us, hl with | [_, _, _], _ => rfl) sc__law_rows len hbody
abbrev N__law_dots : List Str := ["_law_rows_here", "_law_found", "_law_row", "_law_marks", "_law_column"]
theorem sc__law_dots : FnScope N__law_dots ["_law_rows_here"] (defScope s_law_dots) := ⟨rfl, rfl, rfl, by decide +kernel, rfl, by decide +kernel, by decide +kernel⟩
theorem Tx.d__law_dots (T : Tx K mg) {k : Nat} {sp : Sp} (len : ∀ vs H Q E, sp vs H Q E → vs.length = 1)
    (hbody : ∀ (X : Cx) (vs : List V) (H : Hp) (Q : VK) (E : XK), (∃ f cdv A outer s, X = (cxOf CX0 P w K mg base N__law_dots "_law_dots" (defScope s_law_dots) f cdv A outer s H E).nox) → GX X k → sp vs H Q E → WSs X (defBody s_law_dots) { nx := fun _ H' => Q .non H', rt := Q } (L2.start N__law_dots vs) H) :
    DefOk P w K mg base (k + 1) "_law_dots" sp := T.defOk T.g__law_dots 33 rfl (fun _ _ _ _ _ _ us hl => match us, hl with | [_], _ => rfl) sc__law_dots len hbody
abbrev N__law_lit : List Str := ["_law_pot_here", "_law_rows_here", "_law_dots_here", "_law_way", "_law_at", "_law_dot"]
theorem sc__law_lit : FnScope N__law_lit ["_law_pot_here", "_law_rows_here"] (defScope s_law_lit) := ⟨rfl, rfl, rfl, by decide +kernel, rfl, by decide +kernel, by decide +kernel⟩
theorem Tx.d__law_lit (T : Tx K mg) {k : Nat} {sp : Sp} (len : ∀ vs H Q E, sp vs H Q E → vs.length = 2)
    (hbody : ∀ (X : Cx) (vs : List V) (H : Hp) (Q : VK) (E : XK), (∃ f cdv A outer s, X = (cxOf CX0 P w K mg base N__law_lit "_law_lit" (defScope s_law_lit) f cdv A outer s H E).nox) → GX X k → sp vs H Q E → WSs X (defBody s_law_lit) { nx := fun _ H' => Q .non H', rt := Q } (L2.start N__law_lit vs) H) :
    DefOk P w K mg base (k + 1) "_law_lit" sp := T.defOk T.g__law_lit 34 rfl (fun _ _ _ _ _ _ us hl => match us, hl with | [_, _], _ => rfl) sc__law_lit len hbody
abbrev N__law_film : List Str := ["_law_pot_here", "_law_rows_here", "_law_most", "_law_found", "_law_way", "_law_turn"]
theorem sc__law_film : FnScope N__law_film ["_law_pot_here", "_law_rows_here", "_law_most"] (defScope s_law_film) := ⟨rfl, rfl, rfl, by decide +kernel, rfl, by decide +kernel, by decide +kernel⟩
theorem Tx.d__law_film (T : Tx K mg) {k : Nat} {sp : Sp} (len : ∀ vs H Q E, sp vs H Q E → vs.length = 3)
    (hbody : ∀ (X : Cx) (vs : List V) (H : Hp) (Q : VK) (E : XK), (∃ f cdv A outer s, X = (cxOf CX0 P w K mg base N__law_film "_law_film" (defScope s_law_film) f cdv A outer s H E).nox) → GX X k → sp vs H Q E → WSs X (defBody s_law_film) { nx := fun _ H' => Q .non H', rt := Q } (L2.start N__law_film vs) H) :
    DefOk P w K mg base (k + 1) "_law_film" sp := T.defOk T.g__law_film 35 rfl (fun _ _ _ _ _ _ us hl => match us, hl with | [_, _, _], _ => rfl) sc__law_film len hbody
abbrev N__law_near_film : List Str := ["_law_pot_here", "_law_rows_here", "_law_film_here", "_law_at", "_law_way", "_law_dot", "_law_lit_here", "_law_one"]
theorem sc__law_near_film : FnScope N__law_near_film ["_law_pot_here", "_law_rows_here", "_law_film_here"] (defScope s_law_near_film) := ⟨rfl, rfl, rfl, by decide +kernel, rfl, by decide +kernel, by decide +kernel⟩
theorem Tx.d__law_near_film (T : Tx K mg) {k : Nat} {sp : Sp} (len : ∀ vs H Q E, sp vs H Q E → vs.length = 3)
    (hbody : ∀ (X : Cx) (vs : List V) (H : Hp) (Q : VK) (E : XK), (∃ f cdv A outer s, X = (cxOf CX0 P w K mg base N__law_near_film "_law_near_film" (defScope s_law_near_film) f cdv A outer s H E).nox) → GX X k → sp vs H Q E → WSs X (defBody s_law_near_film) { nx := fun _ H' => Q .non H', rt := Q } (L2.start N__law_near_film vs) H) :
    DefOk P w K mg base (k + 1) "_law_near_film" sp := T.defOk T.g__law_near_film 36 rfl (fun _ _ _ _ _ _ us hl => match us, hl with | [_, _, _], _ => rfl) sc__law_near_film len hbody
abbrev N__law_dead : List Str := ["_law_pot_here", "_law_rows_here", "_law_most", "_law_tall", "_law_wires", "_law_lines", "_law_wire"]
theorem sc__law_dead : FnScope N__law_dead ["_law_pot_here", "_law_rows_here", "_law_most"] (defScope s_law_dead) := ⟨rfl, rfl, rfl, by decide +kernel, rfl, by decide +kernel, by decide +kernel⟩
theorem Tx.d__law_dead (T : Tx K mg) {k : Nat} {sp : Sp} (len : ∀ vs H Q E, sp vs H Q E → vs.length = 3)
    (hbody : ∀ (X : Cx) (vs : List V) (H : Hp) (Q : VK) (E : XK), (∃ f cdv A outer s, X = (cxOf CX0 P w K mg base N__law_dead "_law_dead" (defScope s_law_dead) f cdv A outer s H E).nox) → GX X k → sp vs H Q E → WSs X (defBody s_law_dead) { nx := fun _ H' => Q .non H', rt := Q } (L2.start N__law_dead vs) H) :
    DefOk P w K mg base (k + 1) "_law_dead" sp := T.defOk T.g__law_dead 37 rfl (fun _ _ _ _ _ _ us hl => match us, hl with | [_, _, _], _ => rfl) sc__law_dead len hbody
abbrev N__law_is_met : List Str := ["_law_dead_here", "_law_dot"]
theorem sc__law_is_met : FnScope N__law_is_met ["_law_dead_here", "_law_dot"] (defScope s_law_is_met) := ⟨rfl, rfl, rfl, by decide +kernel, rfl, by decide +kernel, by decide +kernel⟩
theorem Tx.d__law_is_met (T : Tx K mg) {k : Nat} {sp : Sp} (len : ∀ vs H Q E, sp vs H Q E → vs.length = 2)
    (hbody : ∀ (X : Cx) (vs : List V) (H : Hp) (Q : VK) (E : XK), (∃ f cdv A outer s, X = (cxOf CX0 P w K mg base N__law_is_met "_law_is_met" (defScope s_law_is_met) f cdv A outer s H E).nox) → GX X k → sp vs H Q E → WSs X (defBody s_law_is_met) { nx := fun _ H' => Q .non H', rt := Q } (L2.start N__law_is_met vs) H) :
    DefOk P w K mg base (k + 1) "_law_is_met" sp := T.defOk T.g__law_is_met 38 rfl (fun _ _ _ _ _ _ us hl => match us, hl with | [_, _], _ => rfl) sc__law_is_met len hbody
abbrev N__law_left : List Str := ["_law_lit_here", "_law_dead_here", "_law_dot"]
theorem sc__law_left : FnScope N__law_left ["_law_lit_here", "_law_dead_here"] (defScope s_law_left) := ⟨rfl, rfl, rfl, by decide +kernel, rfl, by decide +kernel, by decide +kernel⟩
theorem Tx.d__law_left (T : Tx K mg) {k : Nat} {sp : Sp} (len : ∀ vs H Q E, sp vs H Q E → vs.length = 2)
    (hbody : ∀ (X : Cx) (vs : List V) (H : Hp) (Q : VK) (E : XK), (∃ f cdv A outer s, X = (cxOf CX0 P w K mg base N__law_left "_law_left" (defScope s_law_left) f cdv A outer s H E).nox) → GX X k → sp vs H Q E → WSs X (defBody s_law_left) { nx := fun _ H' => Q .non H', rt := Q } (L2.start N__law_left vs) H) :
    DefOk P w K mg base (k + 1) "_law_left" sp := T.defOk T.g__law_left 39 rfl (fun _ _ _ _ _ _ us hl => match us, hl with | [_, _], _ => rfl) sc__law_left len hbody
abbrev N__law_shown : List Str := ["_law_film_here", "_law_looks", "_law_dead_here", "_law_tick"]
theorem sc__law_shown : FnScope N__law_shown ["_law_film_here", "_law_looks", "_law_dead_here"] (defScope s_law_shown) := ⟨rfl, rfl, rfl, by decide +kernel, rfl, by decide +kernel, by decide +kernel⟩
theorem Tx.d__law_shown (T : Tx K mg) {k : Nat} {sp : Sp} (len : ∀ vs H Q E, sp vs H Q E → vs.length = 3)
    (hbody : ∀ (X : Cx) (vs : List V) (H : Hp) (Q : VK) (E : XK), (∃ f cdv A outer s, X = (cxOf CX0 P w K mg base N__law_shown "_law_shown" (defScope s_law_shown) f cdv A outer s H E).nox) → GX X k → sp vs H Q E → WSs X (defBody s_law_shown) { nx := fun _ H' => Q .non H', rt := Q } (L2.start N__law_shown vs) H) :
    DefOk P w K mg base (k + 1) "_law_shown" sp := T.defOk T.g__law_shown 40 rfl (fun _ _ _ _ _ _ us hl => match us, hl with | [_, _, _], _ => rfl) sc__law_shown len hbody
abbrev N__law_made_film : List Str := ["_law_board", "_law_film_here", "_law_lit_here"]
theorem sc__law_made_film : FnScope N__law_made_film ["_law_board", "_law_film_here"] (defScope s_law_made_film) := ⟨rfl, rfl, rfl, by decide +kernel, rfl, by decide +kernel, by decide +kernel⟩
theorem Tx.d__law_made_film (T : Tx K mg) {k : Nat} {sp : Sp} (len : ∀ vs H Q E, sp vs H Q E → vs.length = 2)
    (hbody : ∀ (X : Cx) (vs : List V) (H : Hp) (Q : VK) (E : XK), (∃ f cdv A outer s, X = (cxOf CX0 P w K mg base N__law_made_film "_law_made_film" (defScope s_law_made_film) f cdv A outer s H E).nox) → GX X k → sp vs H Q E → WSs X (defBody s_law_made_film) { nx := fun _ H' => Q .non H', rt := Q } (L2.start N__law_made_film vs) H) :
    DefOk P w K mg base (k + 1) "_law_made_film" sp := T.defOk T.g__law_made_film 41 rfl (fun _ _ _ _ _ _ us hl => match us, hl with | [_, _], _ => rfl) sc__law_made_film len hbody
abbrev N__law_made_seen : List Str := ["_law_board", "_law_seen", "_law_tick", "_law_lit_here"]
theorem sc__law_made_seen : FnScope N__law_made_seen ["_law_board", "_law_seen"] (defScope s_law_made_seen) := ⟨rfl, rfl, rfl, by decide +kernel, rfl, by decide +kernel, by decide +kernel⟩
theorem Tx.d__law_made_seen (T : Tx K mg) {k : Nat} {sp : Sp} (len : ∀ vs H Q E, sp vs H Q E → vs.length = 2)
    (hbody : ∀ (X : Cx) (vs : List V) (H : Hp) (Q : VK) (E : XK), (∃ f cdv A outer s, X = (cxOf CX0 P w K mg base N__law_made_seen "_law_made_seen" (defScope s_law_made_seen) f cdv A outer s H E).nox) → GX X k → sp vs H Q E → WSs X (defBody s_law_made_seen) { nx := fun _ H' => Q .non H', rt := Q } (L2.start N__law_made_seen vs) H) :
    DefOk P w K mg base (k + 1) "_law_made_seen" sp := T.defOk T.g__law_made_seen 42 rfl (fun _ _ _ _ _ _ us hl => match us, hl with | [_, _], _ => rfl) sc__law_made_seen len hbody
abbrev N__law_far_looks : List Str := ["_law_pot_here", "_law_most", "_law_found", "_law_tick", "_law_lap"]
theorem sc__law_far_looks : FnScope N__law_far_looks ["_law_pot_here", "_law_most"] (defScope s_law_far_looks) := ⟨rfl, rfl, rfl, by decide +kernel, rfl, by decide +kernel, by decide +kernel⟩
theorem Tx.d__law_far_looks (T : Tx K mg) {k : Nat} {sp : Sp} (len : ∀ vs H Q E, sp vs H Q E → vs.length = 2)
    (hbody : ∀ (X : Cx) (vs : List V) (H : Hp) (Q : VK) (E : XK), (∃ f cdv A outer s, X = (cxOf CX0 P w K mg base N__law_far_looks "_law_far_looks" (defScope s_law_far_looks) f cdv A outer s H E).nox) → GX X k → sp vs H Q E → WSs X (defBody s_law_far_looks) { nx := fun _ H' => Q .non H', rt := Q } (L2.start N__law_far_looks vs) H) :
    DefOk P w K mg base (k + 1) "_law_far_looks" sp := T.defOk T.g__law_far_looks 43 rfl (fun _ _ _ _ _ _ us hl => match us, hl with | [_, _], _ => rfl) sc__law_far_looks len hbody
abbrev N__law_wires_of : List Str := ["_law_dead_here", "_law_at"]
theorem sc__law_wires_of : FnScope N__law_wires_of ["_law_dead_here"] (defScope s_law_wires_of) := ⟨rfl, rfl, rfl, by decide +kernel, rfl, by decide +kernel, by decide +kernel⟩
theorem Tx.d__law_wires_of (T : Tx K mg) {k : Nat} {sp : Sp} (len : ∀ vs H Q E, sp vs H Q E → vs.length = 1)
    (hbody : ∀ (X : Cx) (vs : List V) (H : Hp) (Q : VK) (E : XK), (∃ f cdv A outer s, X = (cxOf CX0 P w K mg base N__law_wires_of "_law_wires_of" (defScope s_law_wires_of) f cdv A outer s H E).nox) → GX X k → sp vs H Q E → WSs X (defBody s_law_wires_of) { nx := fun _ H' => Q .non H', rt := Q } (L2.start N__law_wires_of vs) H) :
    DefOk P w K mg base (k + 1) "_law_wires_of" sp := T.defOk T.g__law_wires_of 44 rfl (fun _ _ _ _ _ _ us hl => match us, hl with | [_], _ => rfl) sc__law_wires_of len hbody
abbrev N__law_dead_of : List Str := ["_law_wires", "_law_lines", "_law_columns", "_law_word", "_law_at"]
theorem sc__law_dead_of : FnScope N__law_dead_of ["_law_wires"] (defScope s_law_dead_of) := ⟨rfl, rfl, rfl, by decide +kernel, rfl, by decide +kernel, by decide +kernel⟩
theorem Tx.d__law_dead_of (T : Tx K mg) {k : Nat} {sp : Sp} (len : ∀ vs H Q E, sp vs H Q E → vs.length = 1)
    (hbody : ∀ (X : Cx) (vs : List V) (H : Hp) (Q : VK) (E : XK), (∃ f cdv A outer s, X = (cxOf CX0 P w K mg base N__law_dead_of "_law_dead_of" (defScope s_law_dead_of) f cdv A outer s H E).nox) → GX X k → sp vs H Q E → WSs X (defBody s_law_dead_of) { nx := fun _ H' => Q .non H', rt := Q } (L2.start N__law_dead_of vs) H) :
    DefOk P w K mg base (k + 1) "_law_dead_of" sp := T.defOk T.g__law_dead_of 45 rfl (fun _ _ _ _ _ _ us hl => match us, hl with | [_], _ => rfl) sc__law_dead_of len hbody
abbrev N__law_seen_while_dying : List Str := ["_law_pot_here", "_law_film_here", "_law_looks", "_law_dead_here", "_law_begins", "_law_found", "_law_at", "_law_tick", "_law_now", "_law_wire", "_law_begin"]
theorem sc__law_seen_while_dying : FnScope N__law_seen_while_dying ["_law_pot_here", "_law_film_here", "_law_looks", "_law_dead_here"] (defScope s_law_seen_while_dying) := ⟨rfl, rfl, rfl, by decide +kernel, rfl, by decide +kernel, by decide +kernel⟩
theorem Tx.d__law_seen_while_dying (T : Tx K mg) {k : Nat} {sp : Sp} (len : ∀ vs H Q E, sp vs H Q E → vs.length = 4)
    (hbody : ∀ (X : Cx) (vs : List V) (H : Hp) (Q : VK) (E : XK), (∃ f cdv A outer s, X = (cxOf CX0 P w K mg base N__law_seen_while_dying "_law_seen_while_dying" (defScope s_law_seen_while_dying) f cdv A outer s H E).nox) → GX X k → sp vs H Q E → WSs X (defBody s_law_seen_while_dying) { nx := fun _ H' => Q .non H', rt := Q } (L2.start N__law_seen_while_dying vs) H) :
    DefOk P w K mg base (k + 1) "_law_seen_while_dying" sp := T.defOk T.g__law_seen_while_dying 46 rfl (fun _ _ _ _ _ _ us hl => match us, hl with | [_, _, _, _], _ => rfl) sc__law_seen_while_dying len hbody
abbrev N__law_bent_seen : List Str := ["_law_pot_here", "_law_rows_here", "_law_seen", "_law_at", "_law_dot", "_law_tick", "_law_lit_here", "_law_one"]
theorem sc__law_bent_seen : FnScope N__law_bent_seen ["_law_pot_here", "_law_rows_here", "_law_seen"] (defScope s_law_bent_seen) := ⟨rfl, rfl, rfl, by decide +kernel, rfl, by decide +kernel, by decide +kernel⟩
theorem Tx.d__law_bent_seen (T : Tx K mg) {k : Nat} {sp : Sp} (len : ∀ vs H Q E, sp vs H Q E → vs.length = 3)
    (hbody : ∀ (X : Cx) (vs : List V) (H : Hp) (Q : VK) (E : XK), (∃ f cdv A outer s, X = (cxOf CX0 P w K mg base N__law_bent_seen "_law_bent_seen" (defScope s_law_bent_seen) f cdv A outer s H E).nox) → GX X k → sp vs H Q E → WSs X (defBody s_law_bent_seen) { nx := fun _ H' => Q .non H', rt := Q } (L2.start N__law_bent_seen vs) H) :
    DefOk P w K mg base (k + 1) "_law_bent_seen" sp := T.defOk T.g__law_bent_seen 47 rfl (fun _ _ _ _ _ _ us hl => match us, hl with | [_, _, _], _ => rfl) sc__law_bent_seen len hbody
abbrev N__law_drawn_seen : List Str := ["_law_pot_here", "_law_rows_here", "_law_film_here", "_law_dead_here", "_law_most", "_law_looks", "_law_way", "_law_seen"]
theorem sc__law_drawn_seen : FnScope N__law_drawn_seen ["_law_pot_here", "_law_rows_here", "_law_film_here", "_law_dead_here", "_law_most"] (defScope s_law_drawn_seen) := ⟨rfl, rfl, rfl, by decide +kernel, rfl, by decide +kernel, by decide +kernel⟩
theorem Tx.d__law_drawn_seen (T : Tx K mg) {k : Nat} {sp : Sp} (len : ∀ vs H Q E, sp vs H Q E → vs.length = 5)
    (hbody : ∀ (X : Cx) (vs : List V) (H : Hp) (Q : VK) (E : XK), (∃ f cdv A outer s, X = (cxOf CX0 P w K mg base N__law_drawn_seen "_law_drawn_seen" (defScope s_law_drawn_seen) f cdv A outer s H E).nox) → GX X k → sp vs H Q E → WSs X (defBody s_law_drawn_seen) { nx := fun _ H' => Q .non H', rt := Q } (L2.start N__law_drawn_seen vs) H) :
    DefOk P w K mg base (k + 1) "_law_drawn_seen" sp := T.defOk T.g__law_drawn_seen 48 rfl (fun _ _ _ _ _ _ us hl => match us, hl with | [_, _, _, _, _], _ => rfl) sc__law_drawn_seen len hbody
abbrev N__law_lit_at : List Str := ["_law_film_here", "_law_tick"]
theorem sc__law_lit_at : FnScope N__law_lit_at ["_law_film_here", "_law_tick"] (defScope s_law_lit_at) := ⟨rfl, rfl, rfl, by decide +kernel, rfl, by decide +kernel, by decide +kernel⟩
theorem Tx.d__law_lit_at (T : Tx K mg) {k : Nat} {sp : Sp} (len : ∀ vs H Q E, sp vs H Q E → vs.length = 2)
    (hbody : ∀ (X : Cx) (vs : List V) (H : Hp) (Q : VK) (E : XK), (∃ f cdv A outer s, X = (cxOf CX0 P w K mg base N__law_lit_at "_law_lit_at" (defScope s_law_lit_at) f cdv A outer s H E).nox) → GX X k → sp vs H Q E → WSs X (defBody s_law_lit_at) { nx := fun _ H' => Q .non H', rt := Q } (L2.start N__law_lit_at vs) H) :
    DefOk P w K mg base (k + 1) "_law_lit_at" sp := T.defOk T.g__law_lit_at 49 rfl (fun _ _ _ _ _ _ us hl => match us, hl with | [_, _], _ => rfl) sc__law_lit_at len hbody
abbrev N__law_last_lit : List Str := ["_law_seen", "_law_found", "_law_tick", "_law_lit_here", "_law_row", "_law_column"]
theorem sc__law_last_lit : FnScope N__law_last_lit ["_law_seen"] (defScope s_law_last_lit) := ⟨rfl, rfl, rfl, by decide +kernel, rfl, by decide +kernel, by decide +kernel⟩
theorem Tx.d__law_last_lit (T : Tx K mg) {k : Nat} {sp : Sp} (len : ∀ vs H Q E, sp vs H Q E → vs.length = 1)
    (hbody : ∀ (X : Cx) (vs : List V) (H : Hp) (Q : VK) (E : XK), (∃ f cdv A outer s, X = (cxOf CX0 P w K mg base N__law_last_lit "_law_last_lit" (defScope s_law_last_lit) f cdv A outer s H E).nox) → GX X k → sp vs H Q E → WSs X (defBody s_law_last_lit) { nx := fun _ H' => Q .non H', rt := Q } (L2.start N__law_last_lit vs) H) :
    DefOk P w K mg base (k + 1) "_law_last_lit" sp := T.defOk T.g__law_last_lit 50 rfl (fun _ _ _ _ _ _ us hl => match us, hl with | [_], _ => rfl) sc__law_last_lit len hbody
abbrev N__law_may_be_dead : List Str := ["_law_last", "_law_living", "_law_fades", "_law_wire", "_law_tick"]
theorem sc__law_may_be_dead : FnScope N__law_may_be_dead ["_law_last", "_law_living", "_law_fades", "_law_wire", "_law_tick"] (defScope s_law_may_be_dead) := ⟨rfl, rfl, rfl, by decide +kernel, rfl, by decide +kernel, by decide +kernel⟩
theorem Tx.d__law_may_be_dead (T : Tx K mg) {k : Nat} {sp : Sp} (len : ∀ vs H Q E, sp vs H Q E → vs.length = 5)
    (hbody : ∀ (X : Cx) (vs : List V) (H : Hp) (Q : VK) (E : XK), (∃ f cdv A outer s, X = (cxOf CX0 P w K mg base N__law_may_be_dead "_law_may_be_dead" (defScope s_law_may_be_dead) f cdv A outer s H E).nox) → GX X k → sp vs H Q E → WSs X (defBody s_law_may_be_dead) { nx := fun _ H' => Q .non H', rt := Q } (L2.start N__law_may_be_dead vs) H) :
    DefOk P w K mg base (k + 1) "_law_may_be_dead" sp := T.defOk T.g__law_may_be_dead 51 rfl (fun _ _ _ _ _ _ us hl => match us, hl with | [_, _, _, _, _], _ => rfl) sc__law_may_be_dead len hbody
abbrev N__law_first_stray : List Str := ["_law_film_here", "_law_seen", "_law_tick", "_law_lit_here", "_law_some_here", "_law_dot"]
theorem sc__law_first_stray : FnScope N__law_first_stray ["_law_film_here", "_law_seen"] (defScope s_law_first_stray) := ⟨rfl, rfl, rfl, by decide +kernel, rfl, by decide +kernel, by decide +kernel⟩
theorem Tx.d__law_first_stray (T : Tx K mg) {k : Nat} {sp : Sp} (len : ∀ vs H Q E, sp vs H Q E → vs.length = 2)
    (hbody : ∀ (X : Cx) (vs : List V) (H : Hp) (Q : VK) (E : XK), (∃ f cdv A outer s, X = (cxOf CX0 P w K mg base N__law_first_stray "_law_first_stray" (defScope s_law_first_stray) f cdv A outer s H E).nox) → GX X k → sp vs H Q E → WSs X (defBody s_law_first_stray) { nx := fun _ H' => Q .non H', rt := Q } (L2.start N__law_first_stray vs) H) :
    DefOk P w K mg base (k + 1) "_law_first_stray" sp := T.defOk T.g__law_first_stray 52 rfl (fun _ _ _ _ _ _ us hl => match us, hl with | [_, _], _ => rfl) sc__law_first_stray len hbody
abbrev N__law_missing : List Str := ["_law_film_here", "_law_seen", "_law_found", "_law_tick", "_law_lit_here", "_law_dot"]
theorem sc__law_missing : FnScope N__law_missing ["_law_film_here", "_law_seen"] (defScope s_law_missing) := ⟨rfl, rfl, rfl, by decide +kernel, rfl, by decide +kernel, by decide +kernel⟩
theorem Tx.d__law_missing (T : Tx K mg) {k : Nat} {sp : Sp} (len : ∀ vs H Q E, sp vs H Q E → vs.length = 2)
    (hbody : ∀ (X : Cx) (vs : List V) (H : Hp) (Q : VK) (E : XK), (∃ f cdv A outer s, X = (cxOf CX0 P w K mg base N__law_missing "_law_missing" (defScope s_law_missing) f cdv A outer s H E).nox) → GX X k → sp vs H Q E → WSs X (defBody s_law_missing) { nx := fun _ H' => Q .non H', rt := Q } (L2.start N__law_missing vs) H) :
    DefOk P w K mg base (k + 1) "_law_missing" sp := T.defOk T.g__law_missing 53 rfl (fun _ _ _ _ _ _ us hl => match us, hl with | [_, _], _ => rfl) sc__law_missing len hbody
abbrev N__law_demands : List Str := ["_law_film_here", "_law_seen", "_law_living", "_law_fades", "_law_found", "_law_last", "_law_tick", "_law_dot", "_law_row", "_law_column"]
theorem sc__law_demands : FnScope N__law_demands ["_law_film_here", "_law_seen", "_law_living", "_law_fades"] (defScope s_law_demands) := ⟨rfl, rfl, rfl, by decide +kernel, rfl, by decide +kernel, by decide +kernel⟩
theorem Tx.d__law_demands (T : Tx K mg) {k : Nat} {sp : Sp} (len : ∀ vs H Q E, sp vs H Q E → vs.length = 4)
    (hbody : ∀ (X : Cx) (vs : List V) (H : Hp) (Q : VK) (E : XK), (∃ f cdv A outer s, X = (cxOf CX0 P w K mg base N__law_demands "_law_demands" (defScope s_law_demands) f cdv A outer s H E).nox) → GX X k → sp vs H Q E → WSs X (defBody s_law_demands) { nx := fun _ H' => Q .non H', rt := Q } (L2.start N__law_demands vs) H) :
    DefOk P w K mg base (k + 1) "_law_demands" sp := T.defOk T.g__law_demands 54 rfl (fun _ _ _ _ _ _ us hl => match us, hl with | [_, _, _, _], _ => rfl) sc__law_demands len hbody
abbrev N__law_grown : List Str := ["_law_edges", "_law_pairs", "_law_start", "_law_came", "_law_level", "_law_later", "_law_row", "_law_column", "_law_before", "_law_edge", "_law_other"]
theorem sc__law_grown : FnScope N__law_grown ["_law_edges", "_law_pairs", "_law_start"] (defScope s_law_grown) := ⟨rfl, rfl, rfl, by decide +kernel, rfl, by decide +kernel, by decide +kernel⟩
theorem Tx.d__law_grown (T : Tx K mg) {k : Nat} {sp : Sp} (len : ∀ vs H Q E, sp vs H Q E → vs.length = 3)
    (hbody : ∀ (X : Cx) (vs : List V) (H : Hp) (Q : VK) (E : XK), (∃ f cdv A outer s, X = (cxOf CX0 P w K mg base N__law_grown "_law_grown" (defScope s_law_grown) f cdv A outer s H E).nox) → GX X k → sp vs H Q E → WSs X (defBody s_law_grown) { nx := fun _ H' => Q .non H', rt := Q } (L2.start N__law_grown vs) H) :
    DefOk P w K mg base (k + 1) "_law_grown" sp := T.defOk T.g__law_grown 55 rfl (fun _ _ _ _ _ _ us hl => match us, hl with | [_, _, _], _ => rfl) sc__law_grown len hbody
abbrev N__law_apart_edges : List Str := ["_law_edges", "_law_pairs", "_law_found", "_law_row", "_law_edge"]
theorem sc__law_apart_edges : FnScope N__law_apart_edges ["_law_edges"] (defScope s_law_apart_edges) := ⟨rfl, rfl, rfl, by decide +kernel, rfl, by decide +kernel, by decide +kernel⟩
theorem Tx.d__law_apart_edges (T : Tx K mg) {k : Nat} {sp : Sp} (len : ∀ vs H Q E, sp vs H Q E → vs.length = 1)
    (hbody : ∀ (X : Cx) (vs : List V) (H : Hp) (Q : VK) (E : XK), (∃ f cdv A outer s, X = (cxOf CX0 P w K mg base N__law_apart_edges "_law_apart_edges" (defScope s_law_apart_edges) f cdv A outer s H E).nox) → GX X k → sp vs H Q E → WSs X (defBody s_law_apart_edges) { nx := fun _ H' => Q .non H', rt := Q } (L2.start N__law_apart_edges vs) H) :
    DefOk P w K mg base (k + 1) "_law_apart_edges" sp := T.defOk T.g__law_apart_edges 56 rfl (fun _ _ _ _ _ _ us hl => match us, hl with | [_], _ => rfl) sc__law_apart_edges len hbody
abbrev N__law_fewest_of : List Str := ["_law_demands_here", "_law_rows_here", "_law_columns", "_law_left_here", "_law_row", "_law_column", "_law_edge"]
theorem sc__law_fewest_of : FnScope N__law_fewest_of ["_law_demands_here"] (defScope s_law_fewest_of) := ⟨rfl, rfl, rfl, by decide +kernel, rfl, by decide +kernel, by decide +kernel⟩
theorem Tx.d__law_fewest_of (T : Tx K mg) {k : Nat} {sp : Sp} (len : ∀ vs H Q E, sp vs H Q E → vs.length = 1)
    (hbody : ∀ (X : Cx) (vs : List V) (H : Hp) (Q : VK) (E : XK), (∃ f cdv A outer s, X = (cxOf CX0 P w K mg base N__law_fewest_of "_law_fewest_of" (defScope s_law_fewest_of) f cdv A outer s H E).nox) → GX X k → sp vs H Q E → WSs X (defBody s_law_fewest_of) { nx := fun _ H' => Q .non H', rt := Q } (L2.start N__law_fewest_of vs) H) :
    DefOk P w K mg base (k + 1) "_law_fewest_of" sp := T.defOk T.g__law_fewest_of 57 rfl (fun _ _ _ _ _ _ us hl => match us, hl with | [_], _ => rfl) sc__law_fewest_of len hbody
abbrev N__law_t_films : List Str := ["_law_pot_here", "_law_rows_here", "_law_most", "_law_found", "_law_turn", "_law_film_here"]
theorem sc__law_t_films : FnScope N__law_t_films ["_law_pot_here", "_law_rows_here", "_law_most"] (defScope s_law_t_films) := ⟨rfl, rfl, rfl, by decide +kernel, rfl, by decide +kernel, by decide +kernel⟩
theorem Tx.d__law_t_films (T : Tx K mg) {k : Nat} {sp : Sp} (len : ∀ vs H Q E, sp vs H Q E → vs.length = 3)
    (hbody : ∀ (X : Cx) (vs : List V) (H : Hp) (Q : VK) (E : XK), (∃ f cdv A outer s, X = (cxOf CX0 P w K mg base N__law_t_films "_law_t_films" (defScope s_law_t_films) f cdv A outer s H E).nox) → GX X k → sp vs H Q E → WSs X (defBody s_law_t_films) { nx := fun _ H' => Q .non H', rt := Q } (L2.start N__law_t_films vs) H) :
    DefOk P w K mg base (k + 1) "_law_t_films" sp := T.defOk T.g__law_t_films 58 rfl (fun _ _ _ _ _ _ us hl => match us, hl with | [_, _, _], _ => rfl) sc__law_t_films len hbody
abbrev N__law_t_begun : List Str := ["_law_film_here", "_law_begin"]
theorem sc__law_t_begun : FnScope N__law_t_begun ["_law_film_here", "_law_begin"] (defScope s_law_t_begun) := ⟨rfl, rfl, rfl, by decide +kernel, rfl, by decide +kernel, by decide +kernel⟩
theorem Tx.d__law_t_begun (T : Tx K mg) {k : Nat} {sp : Sp} (len : ∀ vs H Q E, sp vs H Q E → vs.length = 2)
    (hbody : ∀ (X : Cx) (vs : List V) (H : Hp) (Q : VK) (E : XK), (∃ f cdv A outer s, X = (cxOf CX0 P w K mg base N__law_t_begun "_law_t_begun" (defScope s_law_t_begun) f cdv A outer s H E).nox) → GX X k → sp vs H Q E → WSs X (defBody s_law_t_begun) { nx := fun _ H' => Q .non H', rt := Q } (L2.start N__law_t_begun vs) H) :
    DefOk P w K mg base (k + 1) "_law_t_begun" sp := T.defOk T.g__law_t_begun 59 rfl (fun _ _ _ _ _ _ us hl => match us, hl with | [_, _], _ => rfl) sc__law_t_begun len hbody
abbrev N__law_t_truths : List Str := ["_law_films", "_law_found", "_law_number", "_law_film_here", "_law_begin"]
theorem sc__law_t_truths : FnScope N__law_t_truths ["_law_films"] (defScope s_law_t_truths) := ⟨rfl, rfl, rfl, by decide +kernel, rfl, by decide +kernel, by decide +kernel⟩
theorem Tx.d__law_t_truths (T : Tx K mg) {k : Nat} {sp : Sp} (len : ∀ vs H Q E, sp vs H Q E → vs.length = 1)
    (hbody : ∀ (X : Cx) (vs : List V) (H : Hp) (Q : VK) (E : XK), (∃ f cdv A outer s, X = (cxOf CX0 P w K mg base N__law_t_truths "_law_t_truths" (defScope s_law_t_truths) f cdv A outer s H E).nox) → GX X k → sp vs H Q E → WSs X (defBody s_law_t_truths) { nx := fun _ H' => Q .non H', rt := Q } (L2.start N__law_t_truths vs) H) :
    DefOk P w K mg base (k + 1) "_law_t_truths" sp := T.defOk T.g__law_t_truths 60 rfl (fun _ _ _ _ _ _ us hl => match us, hl with | [_], _ => rfl) sc__law_t_truths len hbody
abbrev N__law_t_made_films : List Str := ["_law_board", "_law_films", "_law_film_here"]
theorem sc__law_t_made_films : FnScope N__law_t_made_films ["_law_board", "_law_films"] (defScope s_law_t_made_films) := ⟨rfl, rfl, rfl, by decide +kernel, rfl, by decide +kernel, by decide +kernel⟩
theorem Tx.d__law_t_made_films (T : Tx K mg) {k : Nat} {sp : Sp} (len : ∀ vs H Q E, sp vs H Q E → vs.length = 2)
    (hbody : ∀ (X : Cx) (vs : List V) (H : Hp) (Q : VK) (E : XK), (∃ f cdv A outer s, X = (cxOf CX0 P w K mg base N__law_t_made_films "_law_t_made_films" (defScope s_law_t_made_films) f cdv A outer s H E).nox) → GX X k → sp vs H Q E → WSs X (defBody s_law_t_made_films) { nx := fun _ H' => Q .non H', rt := Q } (L2.start N__law_t_made_films vs) H) :
    DefOk P w K mg base (k + 1) "_law_t_made_films" sp := T.defOk T.g__law_t_made_films 61 rfl (fun _ _ _ _ _ _ us hl => match us, hl with | [_, _], _ => rfl) sc__law_t_made_films len hbody
abbrev N__law_fewest_all : List Str := ["_law_films", "_law_seen", "_law_fades", "_law_found", "_law_truth", "_law_film_here", "_law_demands_here"]
theorem sc__law_fewest_all : FnScope N__law_fewest_all ["_law_films", "_law_seen", "_law_fades"] (defScope s_law_fewest_all) := ⟨rfl, rfl, rfl, by decide +kernel, rfl, by decide +kernel, by decide +kernel⟩
theorem Tx.d__law_fewest_all (T : Tx K mg) {k : Nat} {sp : Sp} (len : ∀ vs H Q E, sp vs H Q E → vs.length = 3)
    (hbody : ∀ (X : Cx) (vs : List V) (H : Hp) (Q : VK) (E : XK), (∃ f cdv A outer s, X = (cxOf CX0 P w K mg base N__law_fewest_all "_law_fewest_all" (defScope s_law_fewest_all) f cdv A outer s H E).nox) → GX X k → sp vs H Q E → WSs X (defBody s_law_fewest_all) { nx := fun _ H' => Q .non H', rt := Q } (L2.start N__law_fewest_all vs) H) :
    DefOk P w K mg base (k + 1) "_law_fewest_all" sp := T.defOk T.g__law_fewest_all 62 rfl (fun _ _ _ _ _ _ us hl => match us, hl with | [_, _, _], _ => rfl) sc__law_fewest_all len hbody
abbrev N__law_right : List Str := ["_law_pot_here", "_law_rows_here", "_law_films", "_law_board", "_law_film_here", "_law_seen", "_law_made", "_law_looked", "_law_fades", "_law_some_here", "_law_least", "_law_bound", "_law_row"]
theorem sc__law_right : FnScope N__law_right ["_law_pot_here"] (defScope s_law_right) := ⟨rfl, rfl, rfl, by decide +kernel, rfl, by decide +kernel, by decide +kernel⟩
theorem Tx.d__law_right (T : Tx K mg) {k : Nat} {sp : Sp} (len : ∀ vs H Q E, sp vs H Q E → vs.length = 1)
    (hbody : ∀ (X : Cx) (vs : List V) (H : Hp) (Q : VK) (E : XK), (∃ f cdv A outer s, X = (cxOf CX0 P w K mg base N__law_right "_law_right" (defScope s_law_right) f cdv A outer s H E).nox) → GX X k → sp vs H Q E → WSs X (defBody s_law_right) { nx := fun _ H' => Q .non H', rt := Q } (L2.start N__law_right vs) H) :
    DefOk P w K mg base (k + 1) "_law_right" sp := T.defOk T.g__law_right 63 rfl (fun _ _ _ _ _ _ us hl => match us, hl with | [_], _ => rfl) sc__law_right len hbody
abbrev N_law : List Str := ["_law_script", "_law_number", "_law_pot_here"]
theorem sc_law : FnScope N_law ["_law_script"] (defScope s_law) := ⟨rfl, rfl, rfl, by decide +kernel, rfl, by decide +kernel, by decide +kernel⟩
theorem Tx.d_law (T : Tx K mg) {k : Nat} {sp : Sp} (len : ∀ vs H Q E, sp vs H Q E → vs.length = 1)
    (hbody : ∀ (X : Cx) (vs : List V) (H : Hp) (Q : VK) (E : XK), (∃ f cdv A outer s, X = (cxOf CX0 P w K mg base N_law "law" (defScope s_law) f cdv A outer s H E).nox) → GX X k → sp vs H Q E → WSs X (defBody s_law) { nx := fun _ H' => Q .non H', rt := Q } (L2.start N_law vs) H) :
    DefOk P w K mg base (k + 1) "law" sp := T.defOk T.g_law 64 rfl (fun _ _ _ _ _ _ us hl => match us, hl with | [_], _ => rfl) sc_law len hbody
end
end K31
namespace PySem
open Sem (wp)
theorem meets_enumerate_new1 {v : Value} {o : Obj} {H : Heap → Prop} (B : Begins v o H) :
    Meets (Builtin.«enumerate.__new__» ⟨[.type "enumerate", v], []⟩) (fun _ R s => H s.heap ∧
      R (.ok (.ret (.ref (s.heap.push o).objs.size))) { s with heap := (s.heap.push o).push { cls := .type "enumerate", data := .fields #[.none, .bool false, .ref s.heap.objs.size, rawInt 0, .none, .none] } }) :=
  Meets.of_wp fun prog w A R st pre => by
    obtain ⟨hp, gs, dr, tk, os⟩ := st
    obtain ⟨pre1, post⟩ := pre
    have hsub := sub_enumerate
    have begun : ∀ {A' : Around} {Er : Value → Shared → Prop} {Qr : Value → Shared → Prop}, Qr (.ref hp.objs.size) ⟨hp.push o, gs, dr, tk, os⟩ → wpAny (model prog w) A' (pyIter v) Qr Er ⟨hp, gs, dr, tk, os⟩ := by
      intro A' Er Qr q
      exact B.iter prog w _ _ ⟨hp, gs, dr, tk, os⟩ _ pre1 q
    wp_walk using begun
    refine wpAny_stack_any ?_
    intro frames
    refine wpAny_pure ?_
    split
    · rename_i c0 _ _ _ _ _
      cases hc : (c0 == Value.type "enumerate") <;> (wp_walk using begun; exact ⟨_, rfl, post⟩)
    · wp_walk using begun
      exact ⟨_, rfl, post⟩
section
variable {w : World} {prog : Program}
variable {A : Around}
variable {E : Value → Shared → Prop} {s : Shared}
theorem enum_begins1 {v : Value} {o : Obj} {H : Heap → Prop} {Q : Value → Shared → Prop} (B : Begins v o H) (h1 : H s.heap)
    (h : ∀ h', IsEnum h' (s.heap.objs.size + 1) s.heap.objs.size 0 .none → h'.get? s.heap.objs.size = some o → h'.objs.size = s.heap.objs.size + 2 →
      (∀ c u, s.heap.get? c = some u → h'.get? c = some u) → Q (.ref (s.heap.objs.size + 1)) { s with heap := h' }) :
    wpAny (model prog w) A (call (.type "enumerate") [v]) Q E s := by
  refine callType_new F.called_enumerate (by decide) (F.typeCall_enumerate_1 _) (F.newCall_enumerate_1 _) (fun ob => F.args_object_init_2 ob _) F.entry_enumerate_new (meets_enumerate_new1 B) ⟨h1, ?_⟩
  have hz : (s.heap.push o).objs.size = s.heap.objs.size + 1 := Heap.size_push ..; show _ ∧ _
  rw [hz]
  have he : IsEnum ((s.heap.push o).push { cls := .type "enumerate", data := .fields #[.none, .bool false, .ref s.heap.objs.size, rawInt 0, .none, .none] }) (s.heap.objs.size + 1) s.heap.objs.size 0 .none := by
    have := Heap.get?_push_size (s.heap.push o) (o := { cls := .type "enumerate", data := .fields #[.none, .bool false, .ref s.heap.objs.size, rawInt 0, .none, .none] }) rfl
    rw [hz] at this; exact this
  refine ⟨⟨_, he, rfl⟩, h _ he (Heap.get?_push_of_some _ (Heap.get?_push_size _ B.free)) (by rw [Heap.size_push, hz]) ?_⟩
  intro c u x
  exact Heap.get?_push_of_some _ (Heap.get?_push_of_some _ x)
end
end PySem
namespace K31
open L2 PySem PySem.Spec PyProof.Rows
/-- forgetting, slot by slot -/
inductive Fg : Rho → Rho → Prop
  | nil : Fg [] []
  | k {a : Option PP} {r r' : Rho} : Fg r r' → Fg (a :: r) (a :: r')
  | d {a : Option PP} {r r' : Rho} : Fg r r' → Fg (a :: r) (none :: r')
theorem Env.fg {ρ ρ' : Rho} {σ : L2.St} {H : Hp} (E : Env ρ σ H) (h : Fg ρ ρ') : Env ρ' σ H := by
  have hl : ρ'.length = ρ.length := by
    clear E
    induction h with
    | nil => rfl
    | k _ ih => simp [ih]
    | d _ ih => simp [ih]
  refine E.weak hl fun i P hi => ?_
  clear E hl; induction h generalizing i with
  | nil => exact hi
  | k _ ih =>
    cases i with
    | zero => exact hi
    | succ i => exact ih i (by simpa using hi)
  | d _ ih =>
    cases i with
    | zero => simp at hi
    | succ i => exact ih i (by simpa using hi)
theorem env_p {N : List Str} {H : Hp} {Ps' : List PP} {vs : List V} (h : Paired (fun P v => P.p H v) Ps' vs) : Env (Ps'.map some ++ List.replicate (N.length - Ps'.length) none) (L2.start N vs) H := by
  have := env_start (N := N) h
  rw [← Paired.length h] at this
  exact this
theorem env_r {N : List Str} {H : Hp} {ds : List D} {vs : List V} (r : RepL H ds vs) : Env (ds.map (fun d => some (R d)) ++ List.replicate (N.length - ds.length) none) (L2.start N vs) H := by
  have := env_p (N := N) r.pairR
  rw [List.map_map, List.length_map] at this
  exact this
section
variable {X : Cx} {Hz : Hp} {ρ : Rho} {a b c : Expr} {pos : Pos} {n : Nat}
theorem er_t2 {d d' : D} (ha : ER X Hz ρ a d) (hb : ER X Hz ρ b d') (hs : starEach [a, b] X.env = (false, eval a X.env) :: starEach [b] X.env := by rfl) (hs2 : starEach [b] X.env = (false, eval b X.env) :: starEach [] X.env := by rfl) : ER X Hz ρ (.Tuple [a, b] n pos) (.tup [d, d']) :=
  er_tup (ad_cons ha (ad_cons hb ad_nil hs2) hs) (by show 2 ≤ 1000; decide)
theorem er_t3 {d d' d'' : D} (ha : ER X Hz ρ a d) (hb : ER X Hz ρ b d') (hc : ER X Hz ρ c d'') (hs : starEach [a, b, c] X.env = (false, eval a X.env) :: starEach [b, c] X.env := by rfl) (hs2 : starEach [b, c] X.env = (false, eval b X.env) :: starEach [c] X.env := by rfl) (hs3 : starEach [c] X.env = (false, eval c X.env) :: starEach [] X.env := by rfl) : ER X Hz ρ (.Tuple [a, b, c] n pos) (.tup [d, d', d'']) :=
  er_tup (ad_cons ha (ad_cons hb (ad_cons hc ad_nil hs3) hs2) hs) (by show 3 ≤ 1000; decide)
theorem er_t1 {d : D} (ha : ER X Hz ρ a d) (hs : starEach [a] X.env = (false, eval a X.env) :: starEach [] X.env := by rfl) : ER X Hz ρ (.Tuple [a] n pos) (.tup [d]) := er_tup (ad_cons ha ad_nil hs) (by show 1 ≤ 1000; decide)
end
/-! ### enumerate -/
/-- n items, given by the heap: at turn i a new pair of i and what Y says -/
def Iten (n : Nat) (G : Hp → Prop) (Y : Nat → V → Prop) : It :=
  ⟨fun i H => i < n ∧ G H, fun i H v H' => ∃ T x, v = .ref T ∧ H T = none ∧ H' = upd H T (.tup [.int (i : Nat), x]) ∧ Y i x, fun i H => i = n ∧ G H⟩
theorem turn_enumD {P : Program} {w : World} {K : PySem.W.Frag} {elts : List Expr} {kk : Nat} {tpos : Pos} {e it : Addr} {n : Nat} {G : Hp → Prop} {Y : Nat → V → Prop} {St1 : Nat → Heap → Prop}
    (hne : e ≠ it) (s1 : ∀ i h, St1 i h → ∃ o, h.get? it = some o ∧ ∀ v, o.data ≠ .cell v) (s2 : ∀ i h h', St1 i h → (∀ o, h.get? it = some o → h'.get? it = some o) → St1 i h')
    (dr : ∀ (X : Cx), X.prog = P → X.w = w → X.K = K → X.A.handled = none → ∀ (i : Nat) pins σ H s, Inv X pins σ H s → H e = none → H it = none → G H → St1 i s.heap → ∃ (fp : List Addr) (Pv : Nat → Value → Prop) (St2 : Nat → Heap → Prop), e ∉ fp ∧
      Draws X.prog X.w X.A.in1 it fp n Pv St2 ∧ St2 i s.heap ∧ (∀ h, St2 (i + 1) h → St1 (i + 1) h) ∧ ∀ u, i < n → Pv i u → ∃ x, RelV x u ∧ Y i x) :
    Turn P w K (.Tuple elts kk tpos) (Iten n G Y) [e, it] e (fun i h => (∃ old, IsEnum h e it ((i : Nat) : Int) old) ∧ St1 i h) where
  mem := by simp
  obj := fun i h st b hb => by
    obtain ⟨⟨old, he⟩, hs⟩ := st
    have e' : (b = e ∨ b = it) := by simpa using hb
    rcases e' with z | z
    · (rw [z]; exact ⟨_, he, fun v q => nomatch q⟩)
    · rw [z]; exact s1 i h hs
  keep := fun i h h' st k => let ⟨⟨old, he⟩, hi⟩ := st; ⟨⟨old, k e (by simp) _ he⟩, s2 i h h' hi fun o q => k it (by simp) o q⟩
  item := by
    intro X hP hw hK hc i pins s σ H E I hf st hg; subst hP hw hK
    obtain ⟨⟨old, he⟩, hs⟩ := st
    obtain ⟨hi, hG⟩ := hg
    have hit0 : H it = none := (hf it (by simp)).1
    have hel : e < s.heap.objs.size := Heap.lt_size he; have hil : it < s.heap.objs.size := by obtain ⟨_, q, _⟩ := s1 i _ hs; exact Heap.lt_size q
    obtain ⟨fp, Pv, St2, hef, D, hst2, back, val⟩ := dr X rfl rfl rfl (I.ok.hd hc) i pins σ H s I (hf e (by simp)).1 hit0 hG hs
    refine wpAny_pyNext_enum_itemD D he hst2 hi hne hef fun u h' tk hP ho hs' hT hsz hk => ?_
    obtain ⟨x, rx, hY⟩ := val u hi hP
    refine ⟨_, rfl, wpAny_letOwnedTupleGo_enum (s := { s with heap := h', toks := tk + 1 }) ho fun h'' he' sb => ?_⟩
    have hT2 : h''.get? s.heap.objs.size = some { cls := .type "tuple", data := .seq #[.int i tk, u] } := (sb.2 _ (Nat.ne_of_gt hel)).trans hT
    have new : ObjOk X.prog X.w (upd H s.heap.objs.size (.tup [.int (i : Nat), x])) h'' s.heap.objs.size (.tup [.int (i : Nat), x]) := ⟨by show 2 ≤ sizeLine; decide, [.int i tk, u], .cons ⟨_, rfl⟩ (.cons rx .nil), ⟨_, hT2, rfl, _, rfl⟩⟩
    have I1 : Inv X pins σ (upd H s.heap.objs.size (.tup [.int (i : Nat), x])) { s with heap := h'', toks := tk + 1 } := I.turnedNew (ch := [e, it]) (fun b ob hb q => (sb.2 b (fun z => hb (by simp [z]))).trans (hk b ob (fun z => hb (by simp [z])) (fun z => hb (by simp [z])) q)) hf (Nat.le_refl _) new
    refine ⟨.ref s.heap.objs.size, _, I1, rfl, ⟨_, x, rfl, I.hok.fresh (Nat.le_refl _), rfl, hY⟩, ⟨⟨u, ?_⟩, s2 _ _ _ (back _ hs') fun o q => (sb.2 it (Ne.symm hne)).trans q⟩, fun b hb => ?_⟩
    · have e1 : (((i + 1 : Nat) : Int) = (i : Int) + 1) := by omega
      rw [e1]; exact he'
    · have hb' : (b < s.heap.objs.size) := by
        have e' : (b = e ∨ b = it) := by simpa using hb
        rcases e' with z | z
        · rw [z]; exact hel
        · rw [z]; exact hil
      rw [upd_ne (Nat.ne_of_lt hb')]; exact (hf b hb).1
  done := by
    intro X hP hw hK hc i pins s σ H E I hf st hg; subst hP hw hK
    obtain ⟨⟨old, he⟩, hs⟩ := st
    obtain ⟨rfl, hG⟩ := hg
    obtain ⟨f0, f1, f2, f3, f4, f5⟩ := hf it (by simp); obtain ⟨fp, Pv, St2, hef, D, hst2, back, val⟩ := dr X rfl rfl rfl (I.ok.hd hc) _ pins σ H s I (hf e (by simp)).1 f0 hG hs
    exact wpAny_pyNext_enum_endD D he hst2 fun h' eb => ⟨rfl, I.turned (t' := s.toks) (fun b o hb q => eb b o hb q) f0 f1 f3 f4 f5⟩
  self := (fun A i s Q E st h => let ⟨⟨_, he⟩, _⟩ := st; wpAny_pyIter_enum he h)
/-! ### sources that no store ends -/
structure SrcT (X : Cx) (Hz : Hp) (ρ : Rho) (tg it : Expr) (ds : List D) : Prop where
  run : ∀ (σ : L2.St) (H : Hp) (R : It → Hp → Prop), En Hz ρ σ H → (∀ (J : It) (H1 : Hp) (G : Hp → Prop), Same H H1 → G H1 → (∀ Ha Hb, Le Ha Hb → G Ha → G Hb) →
    Walk J ds.length G (fun i Ha v Hb => Same Ha Hb ∧ ∃ d, ds[i]? = some d ∧ (Le H1 Ha → Rep Hb d v)) → R J H1) → WI X tg it σ H R
theorem Src.is {X : Cx} {Hz : Hp} {ρ : Rho} {tg it : Expr} {ds ds' : List D} (h : Src X Hz ρ tg it ds) (e : ds = ds') : Src X Hz ρ tg it ds' := e ▸ h
theorem SrcT.is {X : Cx} {Hz : Hp} {ρ : Rho} {tg it : Expr} {ds ds' : List D} (h : SrcT X Hz ρ tg it ds) (e : ds = ds') : SrcT X Hz ρ tg it ds' := e ▸ h
theorem SrcT.src {X : Cx} {Hz : Hp} {ρ : Rho} {tg it : Expr} {ds : List D} (h : SrcT X Hz ρ tg it ds) : Src X Hz ρ tg it ds := ⟨fun σ H R E q => h.run σ H R E fun J H1 G s g k w =>
  q J H1 G s g (fun Ha Hb sa ga => k Ha Hb (.of sa) ga) (w.mono (fun _ g => g) fun i H x H' hi hg y => ⟨y.1, let ⟨d, e, r⟩ := y.2; ⟨d, e, fun s => r (.of s)⟩⟩)⟩
section
variable {X : Cx} {Hz : Hp} {ρ : Rho} {tg it a b e : Expr} {pos p tpos : Pos} {k kk : Nat} {elts : List Expr}
theorem srcT_tup {ds : List D} (h : ER X Hz ρ it (.tup ds)) : SrcT X Hz ρ tg it ds := by
  refine ⟨fun σ H R E q => .by (pi_tup pe_W) ?_⟩
  refine h.run σ H _ E fun v H1 s1 r => ?_
  cases r with
  | tup h1 r1 =>
    refine ⟨_, rfl, ⟨_, SqT.of h1⟩, q _ H1 (fun H => H _ = some (.tup _)) s1 h1 (fun Ha Hb s g => s.tup g) ?_⟩
    rw [r1.length]
    refine Walk.mono walk_tup (fun H g => SqT.of g) fun i Ha v Hb hi g y => ?_
    obtain ⟨rfl, hx⟩ := y
    obtain ⟨d, hd, rd⟩ := r1.getV hx
    exact ⟨Same.refl _, d, hd, fun s => rd.le s⟩
theorem srcT_range {n : Int} (hm : X.mg "range" = none) (hn : n < 100000 ∧ -100000 < n) (h : ER X Hz ρ a (.int n)) (hg : Gl X "range" := by rfl) (hst : starEach [a] X.env = [(false, eval a X.env)] := by rfl) :
    SrcT X Hz ρ tg (.Call (.Name "range" p) [a] [] pos) ((List.range n.toNat).map fun i : Nat => D.int i) := by
  refine ⟨fun σ H R E q => .by (pi_range1 hg hm (pa_cons pe_W pa_nil hst) hst) ?_⟩
  refine h.run σ H _ E fun v H1 s1 r => ?_
  cases r
  refine ⟨n, rfl, by omega, by omega, q _ H1 (fun _ => True) s1 trivial (fun _ _ _ _ => trivial) ?_⟩
  have e : ((List.range n.toNat).map fun i : Nat => D.int i).length = n.toNat := by simp
  rw [e]
  refine Walk.mono walk_range (fun H _ => trivial) fun i Ha v Hb hi g y => ?_
  obtain ⟨rfl, rfl⟩ := y
  refine ⟨Same.refl _, .int i, by simp [hi], fun s => ?_⟩
  show Rep _ (.int i) (.int (0 + i))
  rw [show (0 : Int) + (i : Int) = i by omega]
  exact .int _
/-- what a pair of an index and an item is -/
def enumD (ds : List D) : List D := ds.zipIdx.map fun x => .tup [.int (x.2 : Nat), x.1]
theorem enumD_len (ds : List D) : (enumD ds).length = ds.length := by simp [enumD]
theorem enumD_get {ds : List D} {i : Nat} {d : D} (h : ds[i]? = some d) : (enumD ds)[i]? = some (.tup [.int (i : Nat), d]) := by
  unfold enumD
  rw [List.getElem?_map, List.getElem?_zipIdx, h]
  simp
theorem srcT_enumT {ds : List D} (hm : X.mg "enumerate" = none) (h : ER X Hz ρ e (.tup ds)) (hg : Gl X "enumerate" := by rfl) (hs : starEach [e] X.env = [(false, eval e X.env)] := by rfl) : SrcT X Hz ρ (.Tuple elts kk tpos) (.Call (.Name "enumerate" p) [e] [] pos) (enumD ds) := by
  refine ⟨fun σ H R E q => ?_⟩
  intro pins s I
  refine Call_ (ld_blt I hg hm boot_enumerate (PyProof.Rows.callWith_type1 ?_ hs rfl))
  refine thn ((pa_cons pe_W pa_nil hs).run pos pins s σ H (fun vs H1 => Same H H1 ∧ ∃ v, vs = [v] ∧ Rep H1 (.tup ds) v) I (h.run σ H _ E fun v H1 s1 r => ⟨s1, v, rfl, r⟩)) fun us s1 ⟨vs, H1, I1, r1, sa, v, ev, rv⟩ => ?_
  subst ev
  cases rv with
  | @tup a xs _ h1 r2 =>
    cases r1 with
    | cons r rr =>
      cases rr
      cases r
      obtain ⟨its, rv, p', hz⟩ := I1.tuple (SqT.of h1)
      have hal : a < s1.heap.objs.size := I1.hok.lt h1
      refine enum_begins1 (begins_tuple a its.toArray) p' fun h' he hit hsz hk => wpAny_pyIter_enum he ?_
      have I2 : Inv X pins σ H1 { s1 with heap := h' } := I1.kept (t' := s1.toks) hk; have hne : s1.heap.objs.size + 1 ≠ s1.heap.objs.size := Nat.succ_ne_self _
      have ha0 : a ≠ s1.heap.objs.size := Nat.ne_of_lt hal
      have ha1 : a ≠ s1.heap.objs.size + 1 := Nat.ne_of_lt (Nat.lt_succ_of_lt hal)
      refine ⟨s1.heap.objs.size + 1, [s1.heap.objs.size + 1, s1.heap.objs.size], _, Iten ds.length (fun H => H a = some (.tup xs)) (fun i x => xs[i]? = some x), H1, rfl, I2,
        turn_enumD (St1 := fun i h => h.IsTupleIter s1.heap.objs.size a i) hne
          (fun i h ⟨o, e, c, d⟩ => ⟨o, e, fun v z => by rw [d] at z; cases z⟩) (fun i h h' st k => st.at fun o e => k o e)
          (fun X' hP hw hK hA i pins' σ' H' s' I' h0e h0 hG st => ?_), ⟨⟨.none, he⟩, ⟨_, hit, rfl, rfl⟩⟩, fun b hb => ?_, q _ H1 (fun H => H a = some (.tup xs)) sa h1 (fun Ha Hb l g => l.tup g) ?_⟩
      · obtain ⟨its2, rv2, p2, _⟩ := I'.tuple (SqT.of hG)
        have haI : a ≠ s1.heap.objs.size := by intro z; rw [z, h0] at hG; cases hG
        have haE : a ≠ s1.heap.objs.size + 1 := by intro z; rw [z, h0e] at hG; cases hG
        have en : its2.toArray.size = ds.length := by rw [r2.length, rv2.length]; simp
        have D := Draws.tuple (prog := X'.prog) (w := X'.w) (A := X'.A.in1) hA s1.heap.objs.size a haI its2.toArray
        rw [en] at D
        refine ⟨_, _, _, ?_, D, ⟨st, p2⟩, fun h z => z.1, fun u hi hu => ?_⟩
        · intro z; rcases List.mem_cons.mp z with z | z
          · exact hne z
          · exact haE (List.mem_singleton.mp z).symm
        · have hu' : its2[i]? = some u := by simpa using hu
          have hlt : i < xs.length := by rw [rv2.length]; exact (List.getElem?_eq_some_iff.mp hu').1
          obtain ⟨u', hu2, rx⟩ := rv2.get (List.getElem?_eq_getElem hlt)
          rw [hu'] at hu2; cases hu2
          exact ⟨_, rx, List.getElem?_eq_getElem hlt⟩
      · have hle : (s1.heap.objs.size ≤ b) := by
          have e' : (b = s1.heap.objs.size + 1 ∨ b = s1.heap.objs.size) := by simpa using hb
          rcases e' with z | z
          · (rw [z]; exact Nat.le_add_right _ _)
          · rw [z]; exact Nat.le_refl _
        exact (I1.fpOk hle (I1.hok.fresh hle))
      · rw [enumD_len]
        refine ⟨fun i H hi g => ⟨hi, g⟩, fun H g => ⟨rfl, g⟩, fun i Ha v Hb hi g y => ?_⟩
        obtain ⟨T, x, rfl, hT, rfl, hx⟩ := y
        obtain ⟨d, hd, rd⟩ := r2.getV hx
        exact ⟨same_upd hT, _, enumD_get hd, fun l => .tup upd_same (.cons (.int _) (.cons (rd.le (l.trans (.of (same_upd hT)))) .nil))⟩
theorem srcT_enumS {z : Str} (hm : X.mg "enumerate" = none) (h : ER X Hz ρ e (.str z)) (hg : Gl X "enumerate" := by rfl) (hs : starEach [e] X.env = [(false, eval e X.env)] := by rfl) : SrcT X Hz ρ (.Tuple elts kk tpos) (.Call (.Name "enumerate" p) [e] [] pos) (enumD (z.cps.toList.map fun c => D.str ⟨#[c]⟩)) := by
  refine ⟨fun σ H R E q => ?_⟩
  intro pins s I
  refine Call_ (ld_blt I hg hm boot_enumerate (PyProof.Rows.callWith_type1 ?_ hs rfl))
  refine thn ((pa_cons pe_W pa_nil hs).run pos pins s σ H (fun vs H1 => Same H H1 ∧ vs = [.str z]) I (h.run σ H _ E fun v H1 s1 r => by cases r; exact ⟨s1, rfl⟩)) fun us s1 ⟨vs, H1, I1, r1, sa, ev⟩ => ?_
  subst ev
  cases r1 with
  | cons r rr =>
    cases rr
    obtain ⟨t, rfl⟩ := r
    refine enum_begins1 (begins_text z t) trivial fun h' he hit hsz hk => wpAny_pyIter_enum he ?_
    have I2 : Inv X pins σ H1 { s1 with heap := h' } := I1.kept (t' := s1.toks) hk; have hne : s1.heap.objs.size + 1 ≠ s1.heap.objs.size := Nat.succ_ne_self _
    have en : (z.cps.toList.map fun c => D.str ⟨#[c]⟩).length = z.cps.size := by simp
    refine ⟨s1.heap.objs.size + 1, [s1.heap.objs.size + 1, s1.heap.objs.size], _, Iten (z.cps.toList.map fun c => D.str ⟨#[c]⟩).length (fun _ => True) (fun i x => ∃ c, z.cps[i]? = some c ∧ x = .str ⟨#[c]⟩), H1, rfl, I2,
      turn_enumD (St1 := fun i h => h.IsStrIter s1.heap.objs.size (strIterType z) z t i) hne
        (fun i h ⟨o, e, c, d⟩ => ⟨o, e, fun v z => by rw [d] at z; cases z⟩) (fun i h h' ⟨o, e, c, d⟩ k => ⟨o, k o e, c, d⟩)
        (fun X' hP hw hK hA i pins' σ' H' s' I' h0e h0 hG st => ?_), ⟨⟨.none, he⟩, ⟨_, hit, rfl, rfl⟩⟩, fun b hb => ?_, q _ H1 (fun _ => True) sa trivial (fun _ _ _ _ => trivial) ?_⟩
    · have D := Draws.text (prog := X'.prog) (w := X'.w) (A := X'.A.in1) hA s1.heap.objs.size z t
      rw [en]
      refine ⟨_, _, _, ?_, D, st, fun h z => z, fun u hi hu => ?_⟩
      · intro z
        exact hne (List.mem_singleton.mp z)
      · obtain ⟨c, t', hc, rfl⟩ := hu
        exact ⟨.str ⟨#[c]⟩, ⟨_, rfl⟩, c, hc, rfl⟩
    · have hle : (s1.heap.objs.size ≤ b) := by
        have e' : (b = s1.heap.objs.size + 1 ∨ b = s1.heap.objs.size) := by simpa using hb
        rcases e' with z | z
        · (rw [z]; exact Nat.le_add_right _ _)
        · rw [z]; exact Nat.le_refl _
      exact (I1.fpOk hle (I1.hok.fresh hle))
    · rw [enumD_len]
      refine ⟨fun i H hi g => ⟨hi, g⟩, fun H g => ⟨rfl, g⟩, fun i Ha v Hb hi g y => ?_⟩
      obtain ⟨T, x, rfl, hT, rfl, c, hc, rfl⟩ := y
      refine ⟨same_upd hT, _, enumD_get (d := .str ⟨#[c]⟩) ?_, fun l => .tup upd_same (.cons (.int _) (.cons (.str _) .nil))⟩
      rw [List.getElem?_map, Array.getElem?_toList, hc]; rfl
theorem src_enumL {ds : List D} (hm : X.mg "enumerate" = none) (h : ED X Hz ρ e (Lst ds)) (hg : Gl X "enumerate" := by rfl) (hs : starEach [e] X.env = [(false, eval e X.env)] := by rfl) : Src X Hz ρ (.Tuple elts kk tpos) (.Call (.Name "enumerate" p) [e] [] pos) (enumD ds) := by
  refine ⟨fun σ H R E q => .by (pi_enum hg hm (pa_cons pe_W pa_nil hs) hs) ?_⟩
  refine h.run σ H _ E fun v H1 s1 r => ?_
  obtain ⟨a, vs, rfl, h1, r1⟩ := r
  refine ⟨a, vs, rfl, SqL.of h1, q _ H1 (fun H => H a = some (.lst vs)) s1 h1 (fun Ha Hb s g => s _ _ g) ?_⟩
  rw [enumD_len, r1.length]
  refine Walk.mono walk_enum (fun H g => SqL.of g) fun i Ha v Hb hi g y => ?_
  obtain ⟨T, x, y', rfl, hT, rfl, hx, hy⟩ := y
  cases hx
  obtain ⟨d, hd, rd⟩ := r1.getV hy
  exact ⟨same_upd hT, _, enumD_get hd, fun l => .tup upd_same (.cons (.int _) (.cons (rd.le ((Le.of l).trans (.of (same_upd hT)))) .nil))⟩
/-! ### zip -/
def zipD (ds es : List D) : List D := List.zipWith (fun d e => .tup [d, e]) ds es
theorem zipD_len (ds es : List D) : (zipD ds es).length = min ds.length es.length := by simp [zipD]
theorem zipD_get {ds es : List D} {i : Nat} {d e : D} (h : ds[i]? = some d) (h' : es[i]? = some e) : (zipD ds es)[i]? = some (.tup [d, e]) := by
  unfold zipD
  rw [List.getElem?_zipWith, h, h']
theorem srcT_zipT {ds es : List D} (hm : X.mg "zip" = none) (ha : ER X Hz ρ a (.tup ds)) (hb : ER X Hz ρ b (.tup es)) (hg : Gl X "zip" := by rfl) (hs : starEach [a, b] X.env = (false, eval a X.env) :: starEach [b] X.env := by rfl) (hs2 : starEach [b] X.env = (false, eval b X.env) :: starEach [] X.env := by rfl) (hpl : (backTo pos (starEach [b] X.env)).any (·.1) = false := by rfl) :
    SrcT X Hz ρ (.Tuple elts kk tpos) (.Call (.Name "zip" p) [a, b] [] pos) (zipD ds es) := by
  refine ⟨fun σ H R E q => .by (RZ.pi_zipA hg hm (pa_cons pe_W (pa_cons pe_W pa_nil hs2) hs) hs hpl) ?_⟩
  refine ha.run σ H _ E fun v H1 s1 r => ?_
  refine hb.run σ H1 _ (E.same s1) fun u H2 s2 r' => ?_
  have r2 := r.le (.of s2)
  cases r2 with
  | @tup aa xs _ h1 r1 =>
    cases r' with
    | @tup bb ys _ h2 r3 =>
      refine ⟨aa, bb, xs, ys, rfl, .inr ⟨SqT.of h1, SqT.of h2, q _ H2 (fun H => H aa = some (.tup xs) ∧ H bb = some (.tup ys)) (s1.trans s2) ⟨h1, h2⟩ (fun Ha Hb l g => ⟨l.tup g.1, l.tup g.2⟩) ?_⟩⟩
      have l1 := r1.length
      have l2 := r3.length
      rw [zipD_len]
      refine ⟨fun i H hi g => ⟨xs, ys, _, _, SqT.of g.1, SqT.of g.2, List.getElem?_eq_getElem (by omega), List.getElem?_eq_getElem (by omega)⟩, fun H g => ⟨xs, ys, SqT.of g.1, SqT.of g.2, by omega⟩, fun i Ha v Hb hi g y => ?_⟩
      obtain ⟨T, x, y', rfl, hT, rfl, hx, hy⟩ := y
      obtain ⟨d, hd, rd⟩ := r1.getV (hx xs (SqT.of g.1))
      obtain ⟨d', hd', rd'⟩ := r3.getV (hy ys (SqT.of g.2))
      exact ⟨same_upd hT, _, zipD_get hd hd', fun l => .tup upd_same (.cons (rd.le (l.trans (.of (same_upd hT)))) (.cons (rd'.le (l.trans (.of (same_upd hT)))) .nil))⟩
theorem src_zipL {ds es : List D} (hm : X.mg "zip" = none) (ha : ED X Hz ρ a (Lst ds)) (hb : ED X Hz ρ b (Lst es)) (hg : Gl X "zip" := by rfl) (hs : starEach [a, b] X.env = (false, eval a X.env) :: starEach [b] X.env := by rfl) (hs2 : starEach [b] X.env = (false, eval b X.env) :: starEach [] X.env := by rfl) (hpl : (backTo pos (starEach [b] X.env)).any (·.1) = false := by rfl) :
    Src X Hz ρ (.Tuple elts kk tpos) (.Call (.Name "zip" p) [a, b] [] pos) (zipD ds es) := by
  refine ⟨fun σ H R E q => .by (RZ.pi_zipA hg hm (pa_cons pe_W (pa_cons pe_W pa_nil hs2) hs) hs hpl) ?_⟩
  refine ha.run σ H _ E fun v H1 s1 r => ?_
  refine hb.run σ H1 _ (E.same s1) fun u H2 s2 r' => ?_
  obtain ⟨aa, xs, rfl, h1, r1⟩ := stb_Lst.st s2 r
  obtain ⟨bb, ys, rfl, h2, r3⟩ := r'
  refine ⟨aa, bb, xs, ys, rfl, .inl ⟨SqL.of h1, SqL.of h2, q _ H2 (fun H => H aa = some (.lst xs) ∧ H bb = some (.lst ys)) (s1.trans s2) ⟨h1, h2⟩ (fun Ha Hb l g => ⟨l _ _ g.1, l _ _ g.2⟩) ?_⟩⟩
  have l1 := r1.length
  have l2 := r3.length
  rw [zipD_len]
  refine Walk.mono (walk_zip (xs := xs) (ys := ys) (by omega)) (fun H g => ⟨SqL.of g.1, SqL.of g.2⟩) fun i Ha v Hb hi g y => ?_
  obtain ⟨T, x, y', rfl, hT, rfl, hx, hy⟩ := y
  obtain ⟨d, hd, rd⟩ := r1.getV hx
  obtain ⟨d', hd', rd'⟩ := r3.getV hy
  exact ⟨same_upd hT, _, zipD_get hd hd', fun l => .tup upd_same (.cons (rd.le ((Le.of l).trans (.of (same_upd hT)))) (.cons (rd'.le ((Le.of l).trans (.of (same_upd hT)))) .nil))⟩
end
/-! ### a for over such a source -/
section
variable {X : Cx} {Hz : Hp} {ρ : Rho} {σ : L2.St} {H : Hp} {D' : Ends} {rest body : List Stmt} {pos : Pos} {k : Nat} {it tg : Expr}
theorem s_forS {ds : List D} (G : GX X k) (hp : PassesOwn (model X.prog X.w) X.A X.env X.xe) (E : Env ρ σ H) (hi : SrcT X H ρ tg it ds)
    (q : ∀ H1, Same H H1 → Env ρ σ H1 → ∃ J : Nat → L2.St → Hp → Prop, J 0 σ H1 ∧ (∀ i σ' H', J i σ' H' → Le H1 H') ∧
      (∀ i d v σ' H' H'', ds[i]? = some d → J i σ' H' → Same H' H'' → Rep H'' d v → WG X tg v σ' H'' fun σ2 H2 => WSs X body { D' with nx := J (i + 1), ct := J (i + 1), bk := fun σ' H' => WSs X rest D' σ' H' } σ2 H2) ∧
      (∀ σ' H', J ds.length σ' H' → WSs X rest D' σ' H'))
    (hs : ∀ x, foldedSetIterable it X.env x = pure x := by intro _; rfl) : WSs X (.For tg it body [] pos :: rest) D' σ H := by
  refine s_cons (.by (ps_for hp G.calm pi_W pg_W pss_W hs) ?_)
  refine hi.run σ H _ E.en fun It H1 Gd s1 g1 gs wk => ?_
  obtain ⟨J, j0, jl, js, jd⟩ := q H1 s1 (E.same s1)
  refine for_it wk J j0 (fun i σ' H' _ j => gs _ _ (jl i σ' H' j) g1) (fun i x σ' H' H'' hi' j y => ?_) fun σ' H' j => jd σ' H' j
  obtain ⟨sab, d, hd, rd⟩ := y
  exact js i d x σ' H' H'' hd j sab (rd (jl i σ' H' j))
theorem s_forS' {ds : List D} (G : GX X k) (hp : PassesOwn (model X.prog X.w) X.A X.env X.xe) (E : Env ρ σ H) (hi : Src X H ρ tg it ds)
    (q : ∀ H1, Same H H1 → Env ρ σ H1 → ∃ J : Nat → L2.St → Hp → Prop, J 0 σ H1 ∧ (∀ i σ' H', J i σ' H' → Same H1 H') ∧
      (∀ i d v σ' H' H'', ds[i]? = some d → J i σ' H' → Same H' H'' → Rep H'' d v → WG X tg v σ' H'' fun σ2 H2 => WSs X body { D' with nx := J (i + 1), ct := J (i + 1), bk := fun σ' H' => WSs X rest D' σ' H' } σ2 H2) ∧
      (∀ σ' H', J ds.length σ' H' → WSs X rest D' σ' H'))
    (hs : ∀ x, foldedSetIterable it X.env x = pure x := by intro _; rfl) : WSs X (.For tg it body [] pos :: rest) D' σ H := by
  refine s_cons (.by (ps_for hp G.calm pi_W pg_W pss_W hs) ?_)
  refine hi.run σ H _ E.en fun It H1 Gd s1 g1 gs wk => ?_
  obtain ⟨J, j0, jl, js, jd⟩ := q H1 s1 (E.same s1)
  refine for_it wk J j0 (fun i σ' H' _ j => gs _ _ (jl i σ' H' j) g1) (fun i x σ' H' H'' hi' j y => ?_) fun σ' H' j => jd σ' H' j
  obtain ⟨sab, d, hd, rd⟩ := y
  exact js i d x σ' H' H'' hd j sab (rd (jl i σ' H' j))
end
end K31
namespace K31
open L2 PySem PySem.Spec PyProof.Rows
abbrev Dot := Int × Int
def dDot (p : Dot) : D := .tup [.int p.1, .int p.2]
def dLit (l : List Dot) : D := .tup (l.map dDot)
def dFilm (f : List (List Dot)) : D := .tup (f.map dLit)
def dInts (l : List Int) : D := .tup (l.map .int)
def dDead (d : List Int × List Int) : D := .tup [dInts d.1, dInts d.2]
def dLook (s : Int × List Dot) : D := .tup [.int s.1, dLit s.2]
def dSeen (s : List (Int × List Dot)) : D := .tup (s.map dLook)
def dStrs (l : List Str) : D := .tup (l.map .str)
theorem RepL.ints {H : Hp} : ∀ {l : List Int} {vs : List V}, RepL H (l.map D.int) vs → vs = l.map V.int
  | [], _, .nil => rfl
  | _ :: l, _, .cons r t => by cases r; rw [RepL.ints t]; rfl
theorem RepL.ofInts {H : Hp} : ∀ (l : List Int), RepL H (l.map D.int) (l.map V.int)
  | [] => .nil
  | _ :: l => .cons (.int _) (RepL.ofInts l)
theorem RepL.bls {H : Hp} : ∀ {l : List Bool} {vs : List V}, RepL H (l.map D.bl) vs → vs = l.map V.bl
  | [], _, .nil => rfl
  | _ :: l, _, .cons r t => by cases r; rw [RepL.bls t]; rfl
theorem RepL.strs {H : Hp} : ∀ {l : List Str} {vs : List V}, RepL H (l.map D.str) vs → vs = l.map V.str
  | [], _, .nil => rfl
  | _ :: l, _, .cons r t => by cases r; rw [RepL.strs t]; rfl
theorem inV_ints (i : Int) : ∀ l : List Int, inV (.int i) (l.map V.int) = decide (i ∈ l)
  | [] => rfl
  | j :: l => by
    have := inV_ints i l
    unfold inV at this ⊢
    rw [List.map_cons, List.any_cons, this]
    show (j == i || decide (i ∈ l)) = _
    by_cases h : i = j
    · subst h; simp
    · have h' : ¬ j = i := fun e => h e.symm
      simp [h, h']
theorem all_flat_ints : ∀ l : List Int, (l.map V.int).all flatV = true
  | [] => rfl
  | _ :: l => all_flat_ints l
section
variable {X : Cx} {Hz : Hp} {ρ : Rho} {a b e : Expr} {es : List Expr} {pos p : Pos} {k : Nat}
/-! ### in, ints -/
theorem er_inI {i : Int} {l : List Int} (ha : ER X Hz ρ a (.int i)) (hb : ER X Hz ρ b (dInts l)) (hm : behindInMarks .In b = false := by rfl) : ER X Hz ρ (.Compare a [.In] [b] pos) (.bl (decide (i ∈ l))) :=
  er_cmpR op_in_seq hm ha hb fun x y H p1 p2 Q q => by
    cases p1
    cases p2 with
    | tup h r =>
      have := r.ints
      subst this
      exact ⟨_, _, rfl, .inr (SqT.of h), rfl, all_flat_ints l, by rw [inV_ints]; exact q⟩
/-! ### built-ins -/
theorem ad_one {d : D} (h : ER X Hz ρ e d) (hs : starEach [e] X.env = (false, eval e X.env) :: starEach [] X.env := by rfl) : AD X Hz ρ [e] (fun H vs => RepL H [d] vs) := ad_cons h ad_nil hs
theorem al_one {ds : List D} (h : ED X Hz ρ e (Lst ds)) (hs : starEach [e] X.env = (false, eval e X.env) :: starEach [] X.env := by rfl) : AD X Hz ρ [e] (Ps [Lst ds]) := ap_cons stb_Lst h ap_nil hs
theorem RepL.one {H : Hp} {d : D} {vs : List V} (r : RepL H [d] vs) : ∃ v, vs = [v] ∧ Rep H d v := by
  cases r with
  | cons r t => cases t; exact ⟨_, rfl, r⟩
theorem RepL.two {H : Hp} {d d' : D} {vs : List V} (r : RepL H [d, d'] vs) : ∃ v u, vs = [v, u] ∧ Rep H d v ∧ Rep H d' u := by
  cases r with
  | cons r t => cases t with
    | cons r2 t2 => cases t2; exact ⟨_, _, rfl, r, r2⟩
theorem er_lenT {ds : List D} (hm : X.mg "len" = none) (h : ER X Hz ρ e (.tup ds)) (hg : Gl X "len" := by rfl) (hs : starEach [e] X.env = (false, eval e X.env) :: starEach [] X.env := by rfl) (hpl : (backTo pos (starEach [] X.env)).any (·.1) = false := by rfl) : ER X Hz ρ (.Call (.Name "len" p) [e] [] pos) (.int ds.length) :=
  ed_cb call_len_seq hm PySem.boot_len (ad_one h hs) (fun vs H r Q q => by
    obtain ⟨v, rfl, rv⟩ := r.one
    cases rv with
    | tup h r3 => exact ⟨_, _, rfl, .inr (SqT.of h), by rw [← r3.length]; exact q _ H (Same.refl H) (.int _)⟩) hg (by decide) (by decide) hs hpl
theorem er_lenL {ds : List D} (hm : X.mg "len" = none) (h : ED X Hz ρ e (Lst ds)) (hg : Gl X "len" := by rfl) (hs : starEach [e] X.env = (false, eval e X.env) :: starEach [] X.env := by rfl) (hpl : (backTo pos (starEach [] X.env)).any (·.1) = false := by rfl) : ER X Hz ρ (.Call (.Name "len" p) [e] [] pos) (.int ds.length) :=
  ed_cb call_len_seq hm PySem.boot_len (al_one h hs) (fun vs H r Q q => by
    obtain ⟨v, _, rfl, ⟨l, us, rfl, h1, r1⟩, rfl⟩ := r
    exact ⟨_, _, rfl, .inl (SqL.of h1), by rw [← r1.length]; exact q _ H (Same.refl H) (.int _)⟩) hg (by decide) (by decide) hs hpl
theorem er_lenS {z : Str} (hm : X.mg "len" = none) (hz : z.length ≤ sizeLine) (h : ER X Hz ρ e (.str z)) (hg : Gl X "len" := by rfl) (hs : starEach [e] X.env = (false, eval e X.env) :: starEach [] X.env := by rfl) (hpl : (backTo pos (starEach [] X.env)).any (·.1) = false := by rfl) : ER X Hz ρ (.Call (.Name "len" p) [e] [] pos) (.int z.length) :=
  ed_cb call_len_str hm PySem.boot_len (ad_one h hs) (fun vs H r Q q => by
    obtain ⟨v, rfl, rv⟩ := r.one
    cases rv
    exact ⟨z, rfl, hz, q _ H (Same.refl H) (.int _)⟩) hg (by decide) (by decide) hs hpl
theorem er_intI {i : Int} (hm : X.mg "int" = none) (h : ER X Hz ρ e (.int i)) (hg : Gl X "int" := by rfl) (hs : starEach [e] X.env = (false, eval e X.env) :: starEach [] X.env := by rfl) (hpl : (backTo pos (starEach [] X.env)).any (·.1) = false := by rfl) : ER X Hz ρ (.Call (.Name "int" p) [e] [] pos) (.int i) :=
  ed_ct call_int1 hm (by decide +kernel) (ad_one h hs) (fun vs H r Q q => by
    obtain ⟨v, rfl, rv⟩ := r.one
    cases rv
    exact .inl ⟨i, rfl, q _ H (Same.refl H) (.int _)⟩) hg (by decide) (by decide) hs hpl
theorem er_intB {i : Bool} (hm : X.mg "int" = none) (h : ER X Hz ρ e (.bl i)) (hg : Gl X "int" := by rfl) (hs : starEach [e] X.env = (false, eval e X.env) :: starEach [] X.env := by rfl) (hpl : (backTo pos (starEach [] X.env)).any (·.1) = false := by rfl) : ER X Hz ρ (.Call (.Name "int" p) [e] [] pos) (.int (b2i i)) :=
  ed_ct call_int1 hm (by decide +kernel) (ad_one h hs) (fun vs H r Q q => by
    obtain ⟨v, rfl, rv⟩ := r.one
    cases rv
    exact .inr ⟨i, rfl, q _ H (Same.refl H) (.int _)⟩) hg (by decide) (by decide) hs hpl
theorem er_abs {i : Int} (hm : X.mg "abs" = none) (h : ER X Hz ρ e (.int i)) (hg : Gl X "abs" := by rfl) (hs : starEach [e] X.env = (false, eval e X.env) :: starEach [] X.env := by rfl) (hpl : (backTo pos (starEach [] X.env)).any (·.1) = false := by rfl) : ER X Hz ρ (.Call (.Name "abs" p) [e] [] pos) (.int (if i < 0 then -i else i)) :=
  ed_cb call_abs hm (by decide +kernel) (ad_one h hs) (fun vs H r Q q => by
    obtain ⟨v, rfl, rv⟩ := r.one
    cases rv
    exact ⟨i, rfl, q _ H (Same.refl H) (.int _)⟩) hg (by decide) (by decide) hs hpl
theorem er_max2 {i j : Int} (hc : X.calm = true) (hm : X.mg "max" = none) (h : ER X Hz ρ a (.int i)) (h2 : ER X Hz ρ b (.int j)) (hg : Gl X "max" := by rfl) (hs : starEach [a, b] X.env = (false, eval a X.env) :: starEach [b] X.env := by rfl) (hs2 : starEach [b] X.env = (false, eval b X.env) :: starEach [] X.env := by rfl) (hpl : (backTo pos (starEach [b] X.env)).any (·.1) = false := by rfl) : ER X Hz ρ (.Call (.Name "max" p) [a, b] [] pos) (.int (if j > i then j else i)) :=
  ed_cb (call_max2 hc) hm (by decide +kernel) (ad_cons h (ad_one h2 hs2) hs) (fun vs H r Q q => by
    obtain ⟨v, u, rfl, ra, rb⟩ := r.two
    cases ra; cases rb
    exact ⟨i, j, rfl, q _ H (Same.refl H) (.int _)⟩) hg (by decide) (by decide) hs hpl
theorem er_min2 {i j : Int} (hc : X.calm = true) (hm : X.mg "min" = none) (h : ER X Hz ρ a (.int i)) (h2 : ER X Hz ρ b (.int j)) (hg : Gl X "min" := by rfl) (hs : starEach [a, b] X.env = (false, eval a X.env) :: starEach [b] X.env := by rfl) (hs2 : starEach [b] X.env = (false, eval b X.env) :: starEach [] X.env := by rfl) (hpl : (backTo pos (starEach [b] X.env)).any (·.1) = false := by rfl) : ER X Hz ρ (.Call (.Name "min" p) [a, b] [] pos) (.int (if j < i then j else i)) :=
  ed_cb (call_min2 hc) hm (by decide +kernel) (ad_cons h (ad_one h2 hs2) hs) (fun vs H r Q q => by
    obtain ⟨v, u, rfl, ra, rb⟩ := r.two
    cases ra; cases rb
    exact ⟨i, j, rfl, q _ H (Same.refl H) (.int _)⟩) hg (by decide) (by decide) hs hpl
theorem er_tupL {ds : List D} (hm : X.mg "tuple" = none) (h : ED X Hz ρ e (Lst ds)) (hg : Gl X "tuple" := by rfl) (hs : starEach [e] X.env = (false, eval e X.env) :: starEach [] X.env := by rfl) (hpl : (backTo pos (starEach [] X.env)).any (·.1) = false := by rfl) : ER X Hz ρ (.Call (.Name "tuple" p) [e] [] pos) (.tup ds) :=
  ed_ct call_tuple_of hm (by decide +kernel) (al_one h hs) (fun vs H r Q q => by
    obtain ⟨v, _, rfl, ⟨l, us, rfl, h1, r1⟩, rfl⟩ := r
    exact ⟨_, _, rfl, .inl ⟨SqL.of h1, fun m hm => q _ _ (same_upd hm) (.tup upd_same (r1.le (.of (same_upd hm))))⟩⟩) hg (by decide) (by decide) hs hpl
theorem el_lstT {ds : List D} (hm : X.mg "list" = none) (h : ER X Hz ρ e (.tup ds)) (hg : Gl X "list" := by rfl) (hs : starEach [e] X.env = (false, eval e X.env) :: starEach [] X.env := by rfl) (hpl : (backTo pos (starEach [] X.env)).any (·.1) = false := by rfl) : ED X Hz ρ (.Call (.Name "list" p) [e] [] pos) (Lst ds) :=
  ed_ct call_list_of hm (by decide +kernel) (ad_one h hs) (fun vs H r Q q => by
    obtain ⟨v, rfl, rv⟩ := r.one
    cases rv with
    | tup h r3 => exact ⟨_, _, rfl, .inr (SqT.of h), fun m hm => q _ _ (same_upd hm) ⟨m, _, rfl, upd_same, r3.le (.of (same_upd hm))⟩⟩) hg (by decide) (by decide) hs hpl
theorem er_all {bs : List Bool} (hc : X.calm = true) (hm : X.mg "all" = none) (h : ED X Hz ρ e (Lst (bs.map D.bl))) (hg : Gl X "all" := by rfl) (hs : starEach [e] X.env = (false, eval e X.env) :: starEach [] X.env := by rfl) (hpl : (backTo pos (starEach [] X.env)).any (·.1) = false := by rfl) : ER X Hz ρ (.Call (.Name "all" p) [e] [] pos) (.bl (bs.all id)) :=
  ed_cb (cr_all hc) hm (by decide +kernel) (al_one h hs) (fun vs H r Q q => by
    obtain ⟨v, _, rfl, ⟨l, us, rfl, h1, r1⟩, rfl⟩ := r
    have := r1.bls
    subst this
    exact ⟨_, bs, rfl, SqL.of h1, q _ H (Same.refl H) (.bl _)⟩) hg (by decide) (by decide) hs hpl
/-! ### sorted, ints -/
def srt (l : List Int) : List Int := l.mergeSort (fun a b => decide (a ≤ b))
theorem srt_perm (l : List Int) : (srt l).Perm l := List.mergeSort_perm _ _
theorem srt_up (l : List Int) : (srt l).Pairwise (· ≤ ·) := by
  have := List.pairwise_mergeSort (le := fun a b : Int => decide (a ≤ b)) (by intro a b c; simp; omega) (by intro a b; simp; omega) l
  exact this.imp (by intro a b h; simpa using h)
theorem perm_up_eq : ∀ {l l' : List Int}, l.Perm l' → l.Pairwise (· ≤ ·) → l'.Pairwise (· ≤ ·) → l = l'
  | [], l', p, _, _ => (List.nil_perm.mp p).symm
  | a :: l, [], p, _, _ => by have := p.length_eq; simp at this
  | a :: l, b :: l', p, h1, h2 => by
    have ha : a ∈ b :: l' := p.mem_iff.mp List.mem_cons_self
    have hb : b ∈ a :: l := p.mem_iff.mpr List.mem_cons_self
    have e : a = b := by
      rcases (List.mem_cons.mp ha) with e | ha
      · exact e
      · rcases (List.mem_cons.mp hb) with e | hb
        · exact e.symm
        · have u := (List.pairwise_cons.mp h2).1 a ha
          have v := (List.pairwise_cons.mp h1).1 b hb
          omega
    subst e
    rw [perm_up_eq (List.Perm.cons_inv p) (List.pairwise_cons.mp h1).2 (List.pairwise_cons.mp h2).2]
theorem el_sorted {l : List Int} (hm : X.mg "sorted" = none) (h : ED X Hz ρ e (Lst (l.map D.int))) (hg : Gl X "sorted" := by rfl) (hs : starEach [e] X.env = (false, eval e X.env) :: starEach [] X.env := by rfl) (hpl : (backTo pos (starEach [] X.env)).any (·.1) = false := by rfl) : ED X Hz ρ (.Call (.Name "sorted" p) [e] [] pos) (Lst ((srt l).map D.int)) :=
  ed_cb cr_sortedI hm (by decide +kernel) (al_one h hs) (fun vs H r Q q => by
    obtain ⟨v, _, rfl, ⟨m, us, rfl, h1, r1⟩, rfl⟩ := r
    have := r1.ints
    subst this
    refine ⟨m, l, rfl, SqL.of h1, fun ns' pp hp hu hn => ?_⟩
    have : ns' = srt l := perm_up_eq (hp.trans (srt_perm l).symm) hu (srt_up l)
    subst this
    exact q _ _ (same_upd hn) ⟨pp, _, rfl, upd_same, RepL.ofInts _⟩) hg (by decide) (by decide) hs hpl
end
/-! ### draws -/
abbrev LIMP : Nat := 1000000
/-- the pot at p, after n draws at most -/
def Pot (p : Addr) (n : Nat) (H : Hp) : Prop := ∃ own bs k : Int, H p = some (.lst [.int own, .int bs, .int k]) ∧ 0 ≤ own ∧ 0 ≤ bs ∧ bs < 2 ^ 62 ∧ 0 ≤ k ∧ k ≤ n
theorem Pot.same {p : Addr} {n : Nat} {H H' : Hp} (h : Pot p n H) (s : Same H H') : Pot p n H' := let ⟨o, b, k, e, r⟩ := h; ⟨o, b, k, s _ _ e, r⟩
theorem Pot.but {p l : Addr} {n : Nat} {H H' : Hp} (h : Pot p n H) (s : SameBut l H H') (hl : p ≠ l) : Pot p n H' := let ⟨o, b, k, e, r⟩ := h; ⟨o, b, k, s _ _ hl e, r⟩
theorem Pot.mono {p : Addr} {n m : Nat} {H : Hp} (h : Pot p n H) (hm : n ≤ m) : Pot p m H := let ⟨o, b, k, e, r1, r2, r3, r4, r5⟩ := h; ⟨o, b, k, e, r1, r2, r3, r4, by omega⟩
theorem Pot.le {p : Addr} {n : Nat} {H H' : Hp} (h : Pot p n H) (s : SameBut p H H') : Le H H' := let ⟨_, _, _, e, _⟩ := h; s.le e rfl
theorem Pot.ne {p l : Addr} {n : Nat} {H : Hp} (h : Pot p n H) (hl : H l = none) : p ≠ l := by
  obtain ⟨_, _, _, e, _⟩ := h
  intro z; subst z; rw [e] at hl; cases hl
/-- draws c numbers at most; data in, data out -/
def spD {α : Type} (c : Nat) (ds : α → List D) (pre : α → Prop) (post : α → D → Prop) : Sp := fun vs H Q _ => ∃ (x : α) (p : Addr) (n : Nat) (vs' : List V), vs = .ref p :: vs' ∧ RepL H (ds x) vs' ∧ Pot p n H ∧ n + c ≤ LIMP ∧ pre x ∧
  ∀ d v H', post x d → SameBut p H H' → Pot p (n + c) H' → Rep H' d v → Q v H'
theorem spD_len {α : Type} {c : Nat} {ds : α → List D} {pre : α → Prop} {post : α → D → Prop} {m : Nat} (h : ∀ x, (ds x).length = m) : ∀ vs H Q E, spD c ds pre post vs H Q E → vs.length = m + 1 := fun vs H Q E ⟨x, p, n, vs', e, r, _⟩ => by
  subst e; rw [List.length_cons, ← r.length, h x]
/-- e evaluates, drawing c numbers at most from the pot at p, to some data -/
structure DD (X : Cx) (ρ : Rho) (p : Addr) (c : Nat) (e : Expr) (Post : D → Prop) : Prop where
  run : ∀ (σ : L2.St) (H : Hp) (n : Nat) (Q : VK), Env ρ σ H → Pot p n H → n + c ≤ LIMP → (∀ d v H', Post d → SameBut p H H' → Pot p (n + c) H' → Rep H' d v → Q v H') → WE X e σ H Q
structure DA (X : Cx) (ρ : Rho) (p : Addr) (c : Nat) (es : List Expr) (Post : List D → Prop) : Prop where
  run : ∀ (σ : L2.St) (H : Hp) (n : Nat) (Q : List V → Hp → Prop), Env ρ σ H → Pot p n H → n + c ≤ LIMP → (∀ d v H', Post d → SameBut p H H' → Pot p (n + c) H' → RepL H' d v → Q v H') → WA X es σ H Q
section
variable {X : Cx} {Hz : Hp} {ρ : Rho} {a b e : Expr} {es : List Expr} {pos pp : Pos} {k : Nat} {p : Addr}
theorem dd_er {d : D} (h : ∀ Hz, ER X Hz ρ e d) : DD X ρ p 0 e (fun d' => d' = d) := ⟨fun σ H n Q E hp hn q => (h H).run σ H Q E.en fun v H' s r => q d v H' rfl (.of s) (hp.same s) r⟩
theorem DD.imp {c : Nat} {P P' : D → Prop} (h : DD X ρ p c e P) (i : ∀ d, P d → P' d) : DD X ρ p c e P' := ⟨fun σ H n Q E hp hn q => h.run σ H n Q E hp hn fun d v H' pd => q d v H' (i d pd)⟩
theorem da_nil : DA X ρ p 0 [] (fun ds => ds = []) := ⟨fun σ H n Q E hp hn q => .by pa_nil (q [] [] H rfl (.refl _ H) hp .nil)⟩
theorem da_cons {c1 c2 : Nat} {P1 : D → Prop} {P2 : List D → Prop} (h1 : DD X ρ p c1 e P1) (h2 : DA X ρ p c2 es P2) (hs : starEach (e :: es) X.env = (false, eval e X.env) :: starEach es X.env := by rfl) : DA X ρ p (c1 + c2) (e :: es) (fun ds => ∃ d r, ds = d :: r ∧ P1 d ∧ P2 r) := by
  refine ⟨fun σ H n Q E hp hn q => .by (pa_cons pe_W pa_W hs) ?_⟩
  refine h1.run σ H n _ E hp (by omega) fun d v H1 p1 s1 hp1 r1 => ?_
  refine h2.run σ H1 (n + c1) _ (E.le (hp.le s1)) hp1 (by omega) fun ds vs H2 p2 s2 hp2 r2 => ?_
  exact q (d :: ds) _ H2 ⟨d, ds, rfl, p1, p2⟩ (s1.trans s2) (by rw [← Nat.add_assoc]; exact hp2) (.cons (r1.le (hp1.le s2)) r2)
/-- a call of a def that draws; the pot stands in the slot i -/
theorem dd_call {α : Type} {c c' : Nat} {ds : α → List D} {pre : α → Prop} {post : α → D → Prop} {x : Str} {P : List D → Prop} {p0 : Expr} (F : DefOk X.prog X.w X.K X.mg X.base k x (spD c ds pre post)) (G : GX X k) (hρ : ∀ Hz, ED X Hz ρ p0 (rf p).p) (ha : DA X ρ p c' es P) {P' : D → Prop}
    (h : ∀ l, P l → ∃ z, l = ds z ∧ pre z ∧ ∀ d, post z d → P' d) (hg : Gl X x := by rfl) (hd : (x == ("__debug__" : Str)) = false := by decide)
    (he : starEach (p0 :: es) X.env = (false, eval p0 X.env) :: starEach es X.env := by rfl) (hpl : (backTo pos (starEach es X.env)).any (·.1) = false := by rfl) : DD X ρ p (c' + c) (.Call (.Name x pp) (p0 :: es) [] pos) P' := by
  refine ⟨fun σ H n Q E hp hn q => we_call F G (.by (pa_cons pe_W pa_W he) ?_) hg hd he hpl⟩
  refine (hρ H).run σ H _ E.en fun v H0 s0 ev => ?_
  obtain rfl : v = .ref p := ev
  refine ha.run σ H0 n _ (E.same s0) (hp.same s0) (by omega) fun l vs H1 pl s1 hp1 r1 => ?_
  obtain ⟨z, rfl, hz, hq⟩ := h l pl
  exact ⟨z, p, n + c', vs, rfl, r1, hp1, by omega, hz, fun d v H2 pd s2 hp2 r2 => q d v H2 (hq d pd) (((SameBut.of s0).trans s1).trans s2) (by rw [← Nat.add_assoc]; exact hp2) r2⟩
theorem dd_add {c1 c2 : Nat} {P1 P2 : D → Prop} {P : D → Prop} (h1 : DD X ρ p c1 a P1) (h2 : DD X ρ p c2 b P2) (h : ∀ d d', P1 d → P2 d' → ∃ i j, d = .int i ∧ d' = .int j ∧ P (.int (i + j))) : DD X ρ p (c1 + c2) (.BinOp a .Add b pos) P := by
  refine ⟨fun σ H n Q E hp hn q => .by (pe_op op_add pe_W pe_W) ?_⟩
  refine h1.run σ H n _ E hp (by omega) fun d v H1 p1 s1 hp1 r1 => ?_
  refine h2.run σ H1 (n + c1) _ (E.le (hp.le s1)) hp1 (by omega) fun d' v' H2 p2 s2 hp2 r2 => ?_
  obtain ⟨i, j, rfl, rfl, pij⟩ := h d d' p1 p2
  cases r1; cases r2
  exact ⟨i, j, rfl, rfl, q _ _ H2 pij (s1.trans s2) (by rw [← Nat.add_assoc]; exact hp2) (.int _)⟩
/-- a list that stands here -/
theorem ed_here {l : Addr} {ds : List D} (hl : LstAt Hz l ds) (h : ED X Hz ρ e (rf l).p) : ED X Hz ρ e (Lst ds) := ⟨fun σ H Q E q => h.run σ H Q E fun v H' s ev => q v H' s (by
  have : v = .ref l := ev
  subst this
  exact ((hl.same E.s0).same s).lst)⟩
end
end K31
namespace K31
open L2 PySem PySem.Spec PyProof.Rows
section
variable {P : Program} {w : World}
variable {K : PySem.W.Frag} {mg : Str → Option Value} {base : Heap}
def spTake : Sp := spD 1 (fun u : Int => [.int u]) (fun u => 0 < u ∧ u < 1073741824) (fun u d => ∃ i, d = .int i ∧ 0 ≤ i ∧ i < u)
theorem take_mod (a u : Int) (h : 0 < u) : 0 ≤ a % u ∧ a % u < u := ⟨Int.emod_nonneg _ (by omega), Int.emod_lt_of_pos _ h⟩
def primes : List Int := [2147483647, 2147483629, 2147483587, 2147483579, 2147483563]
theorem prime_at (m : Int) (h0 : 0 ≤ m) (h5 : m < 5) : ∃ q : Int, atI (primes.map V.int) m = some (.int q) ∧ 0 < q ∧ q < 2147483648 := by
  have : m = 0 ∨ m = 1 ∨ m = 2 ∨ m = 3 ∨ m = 4 := by omega
  rcases this with rfl | rfl | rfl | rfl | rfl <;> exact ⟨_, rfl, by decide, by decide⟩
theorem ok_take (T : Tx K mg) : DefOk P w K mg base 1 "_law_take" spTake := by
  refine T.d__law_take (spD_len fun _ => rfl) fun X vs H Q E ⟨f, cdv, A, outer, s, e⟩ G ⟨u, p, n, vs', ev, r, hp, hn, ⟨hu0, hu1⟩, q⟩ => ?_
  subst e
  obtain ⟨v, rfl, rv⟩ := r.one
  cases rv
  subst ev
  obtain ⟨own, bs, c, hH, h1, h2, h3, h4, h5⟩ := hp
  have nd := G.nd
  have ni : mg "int" = none := T.n_int
  refine .by (pss_cons (ps_if (pt_cmpR op_gt (pe_ix ix_list (pv 0) pe_int (fun _ _ => rfl)) pe_int (nomark _))
      (pss_cons (ps_set (i := 2) nd rfl (.inl rfl) (pe_op op_mod (pe_callTy call_int1 (by rfl) ni (by decide +kernel) (pa_cons (pe_ix ix_list (pv 0) pe_int (fun _ _ => rfl)) pa_nil)) (pv 1)))
        (pss_cons (ps_asg (pe_op op_fdiv (pe_ix ix_list (pv 0) pe_int (fun _ _ => rfl)) (pv 1)) (pg_sub (pv 0) pe_int set_list)) (pss_one (ps_ret (pv 2))))) pss_nil)
    (pss_cons (ps_asg (pe_op op_add (pe_ix ix_list (pv 0) pe_int (fun _ _ => rfl)) pe_int) (pg_sub (pv 0) pe_int set_list))
    (pss_cons (ps_set (i := 3) nd rfl (.inl rfl) (pe_ix ix_list (pe_lst (pa_cons pe_int (pa_cons pe_int (pa_cons pe_int (pa_cons pe_int (pa_cons pe_int pa_nil)))))) (pe_op op_mod (pe_callTy call_int1 (by rfl) ni (by decide +kernel) (pa_cons (pe_ix ix_list (pv 0) pe_int (fun _ _ => rfl)) pa_nil)) pe_int) (fun _ _ => rfl)))
    (pss_cons (ps_set (i := 4) nd rfl (.inl rfl) (pe_op op_mod (pe_callTy call_int1 (by rfl) ni (by decide +kernel) (pa_cons (pe_op op_pow (pe_callTy call_int1 (by rfl) ni (by decide +kernel) (pa_cons (pe_op op_add (pe_op op_add (pe_ix ix_list (pv 0) pe_int (fun _ _ => rfl)) (pe_op op_mul (pe_op op_mul pe_int (pe_ix ix_list (pv 0) pe_int (fun _ _ => rfl))) (pe_ix ix_list (pv 0) pe_int (fun _ _ => rfl)))) pe_int) pa_nil)) pe_int) pa_nil)) (pv 3)))
    (pss_cons (ps_set (i := 4) nd rfl (.inl rfl) (pe_op op_mod (pe_callTy call_int1 (by rfl) ni (by decide +kernel) (pa_cons (pe_op op_mul (pv 4) (pe_op op_add (pe_op op_mod (pe_callTy call_int1 (by rfl) ni (by decide +kernel) (pa_cons (pv 4) pa_nil)) pe_int) (pe_op op_mul pe_int (pe_ix ix_list (pv 0) pe_int (fun _ _ => rfl))))) pa_nil)) pe_int))
    (pss_one (ps_ret (pe_op op_mod (pe_callTy call_int1 (by rfl) ni (by decide +kernel) (pa_cons (pe_op op_fdiv (pv 4) pe_int) pa_nil)) (pv 1))))))))) ?_
  refine ⟨_, rfl, p, _, _, _, rfl, rfl, SqL.of hH, atI_nat (j := 0) rfl, _, _, rfl, rfl, _, rfl, ?_⟩
  refine ite2 (fun ho => ?_) fun ho => ?_
  · refine ⟨_, rfl, p, _, _, _, rfl, rfl, SqL.of hH, atI_nat (j := 0) rfl, .inl ⟨_, rfl, _, rfl, _, _, rfl, rfl, hu0, ?_⟩⟩
    refine ⟨_, rfl, p, _, _, _, rfl, rfl, SqL.of hH, atI_nat (j := 0) rfl, _, rfl, _, _, rfl, rfl, ⟨hu0, hu1⟩, ?_⟩
    refine ⟨_, rfl, p, _, _, 0, rfl, rfl, hH, rfl, ?_⟩
    refine ⟨_, rfl, q (.int (own % u)) _ _ ⟨_, rfl, take_mod _ _ hu0⟩ .upd ⟨own / u, bs, c, upd_same, Int.ediv_nonneg h1 (by omega), h2, h3, h4, by omega⟩ (.int _)⟩
  · refine ⟨_, rfl, p, _, _, _, rfl, rfl, SqL.of hH, atI_nat (j := 2) rfl, _, _, rfl, rfl, ?_⟩
    refine ⟨_, rfl, p, _, _, 2, rfl, rfl, hH, rfl, ?_⟩
    have hP : upd H p (.lst ([V.int own, .int bs, .int c].set 2 (.int (c + 1)))) p = some (.lst [.int own, .int bs, .int (c + 1)]) := upd_same
    refine ⟨by show 5 ≤ sizeLine; decide, fun l hl => ?_⟩
    have npl : p ≠ l := ne_of_none hP hl
    have hP2 : upd (upd H p (.lst ([V.int own, .int bs, .int c].set 2 (.int (c + 1))))) l (.lst (primes.map V.int)) p = some (.lst [.int own, .int bs, .int (c + 1)]) := by rw [upd_ne npl]; exact hP
    have hm := take_mod (c + 1) 5 (by decide)
    obtain ⟨pr, hpr, hpr0, hpr1⟩ := prime_at ((c + 1) % 5) hm.1 hm.2
    refine ⟨_, rfl, p, _, _, _, rfl, rfl, SqL.of hP2, atI_nat (j := 2) rfl, .inl ⟨_, rfl, _, _, rfl, rfl, (by show (0 : Int) < 5; decide), ?_⟩⟩
    refine ⟨l, primes.map V.int, _, _, rfl, rfl, SqL.of upd_same, hpr, ?_⟩
    have hn' : n + 1 ≤ 1000000 := hn
    have hc : c + 1 ≤ 1000000 := by omega
    refine ⟨_, rfl, p, _, _, _, rfl, rfl, SqL.of hP2, atI_nat (j := 1) rfl, _, rfl, p, _, _, _, rfl, rfl, SqL.of hP2, atI_nat (j := 2) rfl, _, _, rfl, rfl, .inl (by decide), ?_⟩
    have hb2 : 101107 * (c + 1) < 2 ^ 64 := by
      have : 101107 * (c + 1) ≤ 101107 * 1000000 := Int.mul_le_mul_of_nonneg_left hc (by decide)
      exact Int.lt_of_le_of_lt this (by decide)
    have hb2' : 0 ≤ 101107 * (c + 1) := by omega
    refine ⟨_, rfl, p, _, _, _, rfl, rfl, SqL.of hP2, atI_nat (j := 2) rfl, _, _, rfl, rfl, .inl ⟨by omega, hb2⟩, _, _, rfl, rfl, _, _, rfl, rfl, .inl ⟨_, rfl, ?_⟩⟩
    have hb3 : 101107 * (c + 1) * (c + 1) ≤ 101107 * 1000000 * 1000000 := Int.mul_le_mul (by omega) hc (by omega) (by decide)
    have hb3' : 0 ≤ 101107 * (c + 1) * (c + 1) := Int.mul_nonneg hb2' (by omega)
    generalize hz : 101107 * (c + 1) * (c + 1) = zz at hb3 hb3' ⊢
    refine ⟨_, _, rfl, rfl, ⟨by decide, by decide, by omega⟩, .inl ⟨_, rfl, _, rfl, _, _, rfl, rfl, hpr0, ?_⟩⟩
    have hst := take_mod ((bs + zz + 43) ^ (3 : Int).toNat) pr hpr0
    refine ⟨_, rfl, _, rfl, .inl ⟨_, rfl, _, _, rfl, rfl, (by show (0 : Int) < 10061; decide), _, rfl, p, _, _, _, rfl, rfl, SqL.of hP2, atI_nat (j := 2) rfl, _, _, rfl, rfl, .inl (by decide), ?_⟩⟩
    refine ⟨_, _, rfl, rfl, _, _, rfl, rfl, .inl ⟨by omega, by omega⟩, .inl ⟨_, rfl, _, _, rfl, rfl, (by show (0 : Int) < 2305843009213693907; decide), ?_⟩⟩
    refine ⟨_, rfl, _, _, rfl, rfl, ⟨by decide, by decide⟩, .inl ⟨_, rfl, _, rfl, _, _, rfl, rfl, hu0, ?_⟩⟩
    refine q (.int _) _ _ ⟨_, rfl, take_mod _ _ hu0⟩ (fun a o na ha => ?_) ⟨own, bs, c + 1, hP2, h1, h2, h3, by omega, by omega⟩ (.int _)
    have nal : a ≠ l := by
      intro e; subst e
      rw [upd_ne na] at hl
      rw [ha] at hl; cases hl
    rw [upd_ne nal, upd_ne na]; exact ha
def CPowW (i j : Int) : Prop := 0 ≤ j ∧ (Builtin.Int.intBits i : Int) * j ≤ 2 ^ 27
theorem op_powW {X : Cx} : OpR X (binaryOp .Pow) (rI CPowW fun i j => .int (i ^ j.toNat)) := opI fun i j t u s Q E h q => PyProof.Rows.pow_int h.1 h.2 q
theorem b2i_lt (b : Bool) : -(2 ^ 64) < b2i b ∧ b2i b < 2 ^ 64 := by cases b <;> exact ⟨by decide, by decide⟩
theorem b2i_nn (b : Bool) : 0 ≤ b2i b := by cases b <;> decide
/-- the pot of a cell: a new list -/
def spPot (K : PySem.W.Frag) : Sp := fun vs H Q _ => ∃ (a : Addr) (ns : List Int) (j : Nat), vs = [.ref a, .int j] ∧ SqL K H a (ns.map V.int) ∧ ns.length ≤ 63 ∧ j ≤ 2 ∧ ∀ p H', H p = none → Same H H' → Pot p 0 H' → Q (.ref p) H'
theorem ok_pot (T : Tx K mg) : DefOk P w K mg base 1 "_law_pot" (spPot K) := by
  refine T.d__law_pot (fun vs H Q E ⟨a, ns, j, ev, _⟩ => by subst ev; rfl) fun X vs H Q E ⟨f, cdv, A, outer, s, e⟩ G ⟨a, ns, j, ev, hS, hl, hj, q⟩ => ?_
  subst e; subst ev
  have nd := G.nd
  have ni : mg "int" = none := T.n_int
  have na : mg "abs" = none := T.n_abs
  have nl : mg "len" = none := T.n_len
  refine s_mid 2 G (fun v H' => H' = H ∧ ∃ c : Int, v = .int c) (.by (pe_ifExp (pt_cmpR op_lt (pv 1) (pe_callB call_len_seq (by rfl) nl PySem.boot_len (pa_cons (pv 0) pa_nil)) (nomark _)) (pe_ix ix_list (pv 0) (pv 1) (fun _ _ => rfl)) (pe_op op_add (pe_op op_mul pe_int (pv 1)) pe_int)) ?_) fun v H' ⟨e, c, ev⟩ => ?_
  · refine ⟨_, rfl, _, rfl, a, _, rfl, .inl hS, _, _, rfl, rfl, _, rfl, ?_⟩
    refine ite2 (fun ho => ?_) fun ho => ?_
    · have ho' : j < ns.length := by simpa using ho
      exact ⟨_, rfl, _, rfl, a, _, _, _, rfl, rfl, hS, atI_nat (j := j) (v := .int ns[j]) (by simp [ho']), rfl, _, rfl⟩
    · exact ⟨_, rfl, _, _, rfl, rfl, .inl (by decide), _, _, rfl, rfl, rfl, _, rfl⟩
  · subst e ev
    refine .by (pss_cons (ps_set (i := 3) nd rfl (.inl rfl) (pe_op op_mul (pe_op op_mod (pe_callTy call_int1 (by rfl) ni (by decide +kernel) (pa_cons (pe_callB call_abs (by rfl) na (by decide +kernel) (pa_cons (pv 2) pa_nil)) pa_nil)) (pe_op op_powW (pe_op op_pow pe_int pe_int) pe_int))
        (pe_callTy call_int1 (by rfl) ni (by decide +kernel) (pa_cons (pe_cmpR op_ge (pe_callB call_abs (by rfl) na (by decide +kernel) (pa_cons (pv 2) pa_nil)) (pe_op op_pow pe_int pe_int) (nomark _)) pa_nil))))
      (pss_cons (ps_set (i := 4) nd rfl (.inl rfl) (pe_op op_add (pe_op op_add (pe_op op_mul (pe_op op_mod (pe_callTy call_int1 (by rfl) ni (by decide +kernel) (pa_cons (pv 2) pa_nil)) pe_int) pe_int) (pe_op op_mul (pe_op op_mul pe_int (pv 1)) (pv 1))) pe_int))
      (pss_one (ps_ret (pe_lst (pa_cons (pv 3) (pa_cons (pe_op op_mod (pe_callTy call_int1 (by rfl) ni (by decide +kernel) (pa_cons (pv 4) pa_nil)) pe_int) (pa_cons pe_int pa_nil)))))))) ?_
    refine ⟨_, rfl, _, rfl, .inl ⟨_, rfl, _, _, rfl, rfl, ⟨by decide, by decide, by decide⟩, _, _, rfl, rfl, ⟨by decide, by decide +kernel⟩, _, _, rfl, rfl, ?_, ?_⟩⟩
    · show (0 : Int) < ((10 : Int) ^ (60 : Int).toNat) ^ (5 : Int).toNat
      decide +kernel
    refine ⟨_, rfl, _, rfl, _, _, rfl, rfl, ⟨by decide, by decide, by decide⟩, _, _, rfl, rfl, .inr ⟨_, rfl, _, _, rfl, rfl, .inr ?_, ?_⟩⟩
    · exact b2i_lt _
    refine ⟨_, rfl, .inl ⟨_, rfl, _, _, rfl, rfl, (by show (0 : Int) < 2305843009213693951; decide), _, _, rfl, rfl, .inr ⟨by decide, by decide⟩, _, rfl, _, _, rfl, rfl, .inl ⟨by decide, by decide⟩, ?_⟩⟩
    refine ⟨_, rfl, _, _, rfl, rfl, .inr ⟨by omega, by omega⟩, _, _, rfl, rfl, _, _, rfl, rfl, ?_⟩
    refine ⟨_, rfl, _, rfl, .inl ⟨_, rfl, _, _, rfl, rfl, (by show (0 : Int) < 2305843009213693921; decide), by show 3 ≤ sizeLine; decide, fun l hl => ?_⟩⟩
    refine q l _ hl (same_upd hl) ⟨_, _, _, upd_same, ?_, ?_, ?_, by decide, by decide⟩
    · refine Int.mul_nonneg (Int.emod_nonneg _ ?_) ?_
      · have : (0 : Int) < ((10 : Int) ^ (60 : Int).toNat) ^ (5 : Int).toNat := by decide +kernel
        omega
      · exact b2i_nn _
    · exact Int.emod_nonneg _ (by decide)
    · exact Int.lt_of_lt_of_le (Int.emod_lt_of_pos _ (by decide)) (by decide)
end
end K31
namespace K31
open L2 PySem PySem.Spec PyProof.Rows
/-! ### boards as data -/
def mkRow (r : List Bool) : Str := ⟨(r.map fun b => if b then 111 else 46).toArray⟩
def dRows (B : List (List Bool)) : D := .tup (B.map fun r => .str (mkRow r))
def rowDots (i : Nat) (r : List Bool) : List Dot := ((List.range r.length).filter fun j => r.getD j false).map fun j : Nat => ((i : Int), (j : Int))
def dotsFrom : Nat → List (List Bool) → List Dot
  | _, [] => []
  | i, r :: B => rowDots i r ++ dotsFrom (i + 1) B
def dotsOf (B : List (List Bool)) : List Dot := dotsFrom 0 B
def ltDot (p q : Dot) : Prop := p.1 < q.1 ∨ (p.1 = q.1 ∧ p.2 < q.2)
instance (p q : Dot) : Decidable (ltDot p q) := by unfold ltDot; infer_instance
structure GoodB (B : List (List Bool)) : Prop where
  h0 : 0 < B.length
  h1 : B.length ≤ 10
  w : ∃ w, 0 < w ∧ w ≤ 10 ∧ (∀ r ∈ B, r.length = w) ∧ (∀ j, j < w → ∃ r ∈ B, r.getD j false = true)
  row : ∀ r ∈ B, true ∈ r
def Lit (B : List (List Bool)) (l : List Dot) : Prop := l.Pairwise ltDot ∧ ∀ d ∈ l, d ∈ dotsOf B
structure FilmOk (B : List (List Bool)) (m : Nat) (f : List (List Dot)) : Prop where
  h0 : 0 < f.length
  h1 : f.length ≤ m
  lit : ∀ l ∈ f, Lit B l
structure SeenOk (B : List (List Bool)) (s : List (Int × List Dot)) : Prop where
  h0 : 0 < s.length
  h1 : s.length ≤ 12
  up : (s.map Prod.fst).Pairwise (· < ·)
  pos : ∀ x ∈ s, 0 ≤ x.1 ∧ x.1 < 2 ^ 40
  lit : ∀ x ∈ s, Lit B x.2
theorem rowDots_up (i : Nat) (r : List Bool) : (rowDots i r).Pairwise ltDot := by
  unfold rowDots
  rw [List.pairwise_map]
  refine List.Pairwise.filter _ ?_
  exact List.pairwise_lt_range.imp fun {a b} h => .inr ⟨rfl, by simpa using h⟩
theorem rowDots_fst {i : Nat} {r : List Bool} {d : Dot} (h : d ∈ rowDots i r) : d.1 = i ∧ 0 ≤ d.2 ∧ d.2 < r.length ∧ r.getD d.2.toNat false = true := by
  unfold rowDots at h
  obtain ⟨j, hj, rfl⟩ := List.mem_map.mp h
  obtain ⟨h1, h2⟩ := List.mem_filter.mp hj
  exact ⟨rfl, by simp, by simpa using List.mem_range.mp h1, by simpa using h2⟩
theorem dotsFrom_fst : ∀ {B : List (List Bool)} {i : Nat} {d : Dot}, d ∈ dotsFrom i B → (i : Int) ≤ d.1 ∧ d.1 < i + B.length ∧ 0 ≤ d.2 ∧ (B.getD (d.1 - i).toNat []).getD d.2.toNat false = true ∧ d.2 < (B.getD (d.1 - i).toNat []).length
  | [], _, _, h => by simp [dotsFrom] at h
  | r :: B, i, d, h => by
    rcases (List.mem_append.mp h) with h | h
    · obtain ⟨e, h1, h2, h3⟩ := rowDots_fst h
      rw [e]
      refine ⟨Int.le_refl _, by simp; omega, h1, ?_⟩
      simp [h3, h2]
      simpa using h3
    · obtain ⟨h1, h2, h3, h4, h5⟩ := dotsFrom_fst h
      have e : (d.1 - (i : Int)).toNat = (d.1 - ((i + 1 : Nat) : Int)).toNat + 1 := by omega
      rw [e, List.getD_cons_succ]
      exact ⟨by omega, by simp; omega, h3, h4, h5⟩
theorem dotsFrom_up : ∀ (B : List (List Bool)) (i : Nat), (dotsFrom i B).Pairwise ltDot
  | [], _ => .nil
  | r :: B, i => by
    refine List.pairwise_append.mpr ⟨rowDots_up i r, dotsFrom_up B (i + 1), fun a ha b hb => .inl ?_⟩
    have h1 := (rowDots_fst ha).1
    have h2 := (dotsFrom_fst hb).1
    omega
theorem dotsFrom_mem : ∀ {B : List (List Bool)} {i : Nat} {d : Dot}, (i : Int) ≤ d.1 → d.1 < i + B.length → 0 ≤ d.2 → (B.getD (d.1 - i).toNat []).getD d.2.toNat false = true → d ∈ dotsFrom i B
  | [], i, d, h1, h2, _, _ => by simp at h2; omega
  | r :: B, i, d, h1, h2, h3, h4 => by
    refine List.mem_append.mpr ?_
    by_cases e : d.1 = i
    · left
      have e2 : (d.1 - (i : Int)).toNat = 0 := by omega
      rw [e2] at h4
      simp at h4
      unfold rowDots
      refine List.mem_map.mpr ⟨d.2.toNat, List.mem_filter.mpr ⟨List.mem_range.mpr ?_, by simpa using h4⟩, ?_⟩
      · rcases Nat.lt_or_ge d.2.toNat r.length with z | z
        · exact z
        · rw [List.getElem?_eq_none z] at h4; simp at h4
      · apply Prod.ext
        · exact e.symm
        · simp; omega
    · right
      refine dotsFrom_mem (by omega) (by simp at h2; omega) h3 ?_
      have e2 : (d.1 - (i : Int)).toNat = (d.1 - ((i + 1 : Nat) : Int)).toNat + 1 := by omega
      rw [e2, List.getD_cons_succ] at h4
      exact h4
theorem rowDots_len (i : Nat) (r : List Bool) : (rowDots i r).length ≤ r.length := by
  unfold rowDots
  rw [List.length_map]
  refine Nat.le_trans (List.length_filter_le _ _) ?_
  rw [List.length_range]
  exact Nat.le_refl _
theorem dotsFrom_len : ∀ (B : List (List Bool)) (i : Nat), (∀ r ∈ B, r.length ≤ 10) → (dotsFrom i B).length ≤ 10 * B.length
  | [], _, _ => Nat.le_refl _
  | r :: B, i, h => by
    have h1 := rowDots_len i r
    have h2 := dotsFrom_len B (i + 1) fun r hr => h r (List.mem_cons_of_mem _ hr)
    have h3 := h r List.mem_cons_self
    show (rowDots i r ++ dotsFrom (i + 1) B).length ≤ _
    rw [List.length_append, List.length_cons]
    omega
theorem GoodB.le10 {B : List (List Bool)} (g : GoodB B) : ∀ r ∈ B, r.length ≤ 10 := fun r hr => by
  obtain ⟨w, _, h, e, _⟩ := g.w
  rw [e r hr]; exact h
theorem GoodB.dots_len {B : List (List Bool)} (g : GoodB B) : (dotsOf B).length ≤ 100 := by
  have h1 := dotsFrom_len B 0 g.le10
  have h2 := g.h1
  have h3 : (dotsOf B).length = (dotsFrom 0 B).length := rfl
  omega
theorem GoodB.dots_pos {B : List (List Bool)} (g : GoodB B) : dotsOf B ≠ [] := by
  cases B with
  | nil => exact absurd g.h0 (by decide)
  | cons r B =>
    have h := g.row r List.mem_cons_self
    obtain ⟨j, hj, e⟩ := List.getElem_of_mem h; have : ((0 : Nat) : Int) = 0 := rfl
    have hm : (((0 : Nat) : Int), (j : Int)) ∈ dotsOf (r :: B) := dotsFrom_mem (by simp) (by simp <;> omega) (by simp) (by simp [hj, e])
    intro z; rw [z] at hm; cases hm
theorem ltDot_irrefl (d : Dot) : ¬ ltDot d d := by unfold ltDot; omega
theorem ltDot_trans {a b c : Dot} (h1 : ltDot a b) (h2 : ltDot b c) : ltDot a c := by unfold ltDot at *; omega
theorem Lit.nodup {B : List (List Bool)} {l : List Dot} (h : Lit B l) : l.Nodup := h.1.imp fun {a b} h e => by subst e; exact ltDot_irrefl _ h
theorem nodup_len {α : Type} [DecidableEq α] : ∀ {l m : List α}, l.Nodup → (∀ x ∈ l, x ∈ m) → l.length ≤ m.length
  | [], _, _, _ => (Nat.zero_le _)
  | a :: l, m, h, s => by
    have ha := s a List.mem_cons_self
    have hn := List.nodup_cons.mp h
    have := nodup_len (l := l) (m := m.erase a) hn.2 fun x hx => (List.mem_erase_of_ne (fun e => by subst e; exact hn.1 hx)).mpr (s x (List.mem_cons_of_mem _ hx))
    rw [List.length_erase_of_mem ha] at this
    have hp : 0 < m.length := List.length_pos_of_mem ha
    simp
    omega
theorem Lit.len {B : List (List Bool)} {l : List Dot} (g : GoodB B) (h : Lit B l) : l.length ≤ 100 := Nat.le_trans (nodup_len h.nodup h.2) g.dots_len
theorem Lit.sub {B : List (List Bool)} {l m : List Dot} (h : Lit B l) (s : m.Sublist l) : Lit B m := ⟨h.1.sublist s, fun d hd => h.2 d (s.mem hd)⟩
theorem lit_all (B : List (List Bool)) : Lit B (dotsOf B) := ⟨dotsFrom_up B 0, fun _ h => h⟩
theorem lit_nil (B : List (List Bool)) : Lit B [] := ⟨.nil, fun _ h => by cases h⟩

section
variable {P : Program} {w : World}
variable {K : PySem.W.Frag} {mg : Str → Option Value} {base : Heap}
/-! ### _law_of -/
def spOf : Sp := fun vs H Q _ => ∃ (p a : Addr) (n : Nat) (ds : List D), vs = [.ref p, .ref a] ∧ Pot p n H ∧ n + 1 ≤ LIMP ∧ LstAt H a ds ∧ a ≠ p ∧ 0 < ds.length ∧ ds.length < 1000000 ∧
  ∀ d v H', d ∈ ds → SameBut p H H' → Pot p (n + 1) H' → Rep H' d v → Q v H'
theorem ok_of (T : Tx K mg) : DefOk P w K mg base 2 "_law_of" spOf := by
  refine T.d__law_of (fun vs H Q E ⟨p, a, n, ds, ev, _⟩ => by subst ev; rfl) fun X vs H Q E ⟨f, cdv, A, outer, s, e⟩ G ⟨p, a, n, ds, ev, hp, hn, hl, hap, h0, h1, q⟩ => ?_
  subst e; subst ev
  obtain ⟨us, ha, ra⟩ := hl
  have el := ra.length
  refine s_cons (.by (ps_ret (pe_ix ix_list (pv 1) pe_W (fun _ _ => rfl))) ⟨_, rfl, ?_⟩)
  refine we_call (ok_take T) G (.by (pa_cons (pv 0) (pa_cons (pe_callB call_len_seq (by rfl) T.n_len PySem.boot_len (pa_cons (pv 1) pa_nil)) pa_nil)) ⟨_, rfl, _, rfl, a, us, rfl, .inl (SqL.of ha), ?_⟩)
  refine ⟨(us.length : Int), p, n, [.int us.length], rfl, .cons (.int _) .nil, hp, hn, ⟨by omega, by omega⟩, fun d v H' ⟨i, ed, hi0, hi1⟩ sb hp' rv => ?_⟩
  subst ed
  cases rv
  have ha' := sb _ _ hap ha
  obtain ⟨j, rfl⟩ : ∃ j : Nat, i = j := ⟨i.toNat, by omega⟩
  have hj : j < us.length := by omega
  have hd : ds[j]? = some ds[j] := List.getElem?_eq_getElem (by omega)
  obtain ⟨v, hv, rv⟩ := ra.get hd
  exact ⟨a, us, j, v, rfl, rfl, SqL.of ha', atI_nat hv, q _ v H' (List.getElem_mem _) sb hp' (rv.le (hp.le sb))⟩
end
end K31
namespace K31
open L2 PySem PySem.Spec PyProof.Rows
theorem mkRow_len (r : List Bool) : (mkRow r).length = r.length := by simp [mkRow, Str.length]
theorem mkRow_at {r : List Bool} {j : Nat} (h : j < r.length) : atI (mkRow r).cps.toList (j : Int) = some (if r.getD j false then 111 else 46) := by
  refine atI_nat ?_
  simp [mkRow, h]
theorem str_o (b : Bool) : decide ((⟨#[if b = true then 111 else 46]⟩ : Str) = "o") = b := by cases b <;> decide +kernel
theorem map_enc_rows (B : List (List Bool)) : dRows B = .tup (B.map fun r => .str (mkRow r)) := rfl
theorem dotsFrom_snoc : ∀ (B : List (List Bool)) (r : List Bool) (i : Nat), dotsFrom i (B ++ [r]) = dotsFrom i B ++ rowDots (i + B.length) r
  | [], r, i => by simp [dotsFrom]
  | q :: B, r, i => by
    have := dotsFrom_snoc B r (i + 1)
    show rowDots i q ++ dotsFrom (i + 1) (B ++ [r]) = (rowDots i q ++ dotsFrom (i + 1) B) ++ _
    rw [this, List.append_assoc, List.length_cons]
    rw [show i + 1 + B.length = i + (B.length + 1) by omega]
theorem take_snoc {α : Type} {l : List α} {i : Nat} {x : α} (h : l[i]? = some x) : l.take (i + 1) = l.take i ++ [x] := by rw [List.take_succ, h]; rfl
section
variable {P : Program} {w : World}
variable {K : PySem.W.Frag} {mg : Str → Option Value} {base : Heap}
theorem ok_dots (T : Tx K mg) : DefOk P w K mg base 1 "_law_dots" (spL (fun B : List (List Bool) => [dRows B]) (fun B => ∀ r ∈ B, r.length ≤ 10 ∧ B.length ≤ 10) fun B => (dotsOf B).map dDot) := by
  refine T.d__law_dots (spL_len fun _ => rfl) fun X vs H Q E ⟨f, cdv, A, outer, s, e⟩ G ⟨B, r, hB, q⟩ => ?_
  subst e
  have E := env_r (N := N__law_dots) r
  refine s_setD 1 G E ad_nil fun l σ1 H1 hl s1 l1 E1 => ?_
  refine s_forS G .never E1 (srcT_enumT T.n_enumerate (er_var 0 rfl)) fun H2 s2 E2 => ?_
  have l2 := l1.same s2
  refine ⟨fun i σ' H' => SameBut l H2 H' ∧ LstAt H' l ((dotsFrom 0 (B.take i)).map dDot) ∧ Env [some (R (dRows B)), some (rf l), none, none, none] σ' H', ⟨.refl _ _, l2, E2⟩, fun i σ' H' j => l2.le j.1, ?_, ?_⟩
  · rintro i d v σ' H' H'' hd ⟨sb, la, E3⟩ s3 rd
    have hi : i < B.length := by
      have := (List.getElem?_eq_some_iff.mp hd).1
      simpa [enumD] using this
    have hrow : B[i]? = some B[i] := List.getElem?_eq_getElem hi
    have : (enumD (B.map fun r => D.str (mkRow r)))[i]? = some (.tup [.int (i : Nat), .str (mkRow B[i])]) := enumD_get (by rw [List.getElem?_map, hrow]; rfl)
    have hd' : d = .tup [.int (i : Nat), .str (mkRow B[i])] := by
      have h2 : some d = some _ := hd.symm.trans this
      injection h2
    subst hd'
    generalize hrr : B[i] = rr at *
    have hr10 : rr.length ≤ 10 ∧ B.length ≤ 10 := hB rr (by rw [← hrr]; exact List.getElem_mem hi)
    refine g_tup2 2 3 G rd fun v1 v2 r1 r2 => ?_
    have E4 := ((E3.same s3).set 2 (P := R _) r1).set 3 (P := R _) r2
    refine s_extend (es' := (rowDots i rr).map dDot) E4 (la.same s3) (ed_var 1 rfl) ?_ ?_ fun H4 sb4 l4 E5 => s_nil ?_
    · have hrl : (mkRow rr).length = rr.length := mkRow_len rr
      rw [show (rowDots i rr).map dDot = (((List.range rr.length).filter fun j => rr.getD j false).map fun j : Nat => dDot (i, j)) from by simp [rowDots, List.map_map]]
      refine ed_lc (L := List.range rr.length) (enc := fun j : Nat => D.int j) (fun j => rr.getD j false) (fun j : Nat => dDot (i, j)) G [("_law_column", 4)]
        ((srcT_range T.n_range ⟨by rw [hrl]; omega, by rw [hrl]; omega⟩ (er_lenS T.n_len (by rw [hrl]; exact Nat.le_trans hr10.1 (by decide)) (er_var 3 rfl))).src.is (by rw [hrl]; simp)) (blkOk_by (N := N__law_dots) (sc := defScope s_law_dots) (by decide +kernel)) (by simp; omega)
        (fun s H0 C cl fp x hx => tg_name 4 G.nd) (fun s H0 C cl fp x hx => ts_one ((td_eqS (er_ixs (er_var 3 rfl) (er_var 4 rfl) (by rw [hrl]; exact Nat.le_trans hr10.1 (by decide)) (mkRow_at (List.mem_range.mp hx))) er_str).is (str_o _)))
        fun s H0 C cl fp x hx hb => er_t2 (er_var 2 rfl) (er_var 4 rfl)
    · have h1 := dotsFrom_len (B.take i) 0 fun r hr => (hB r (List.mem_of_mem_take hr)).1
      have h2 := rowDots_len i rr
      have h3 : (B.take i).length ≤ 10 := by rw [List.length_take]; omega
      rw [List.length_map, List.length_map]
      omega
    · refine ⟨(sb.trans (.of s3)).trans sb4, ?_, ?_⟩
      · rw [take_snoc hrow, dotsFrom_snoc, List.map_append]
        have : (B.take i).length = i := by rw [List.length_take]; omega
        rw [this, Nat.zero_add]
        exact l4
      · exact E5.fg (.k (.k (.d (.d (.d .nil)))))
  · rintro σ' H' ⟨sb, la, E3⟩
    refine s_ret E3 (ed_var 1 rfl) fun v H3 s3 ev => ?_
    obtain rfl : v = .ref l := ev
    have hn : (enumD (B.map fun r => D.str (mkRow r))).length = B.length := by simp [enumD]
    refine q _ H3 ((sb.same (s1.trans s2) hl).trans s3) ?_
    have := (la.same s3).lst
    rw [show dRows B = .tup (B.map fun r => .str (mkRow r)) from rfl] at *
    rw [hn, List.take_length] at this
    exact this
end
end K31
namespace K31
open L2 PySem PySem.Spec PyProof.Rows
def sgn (b : Bool) : Str := if b = true then "o" else "."
theorem sgn_cps (b : Bool) : (sgn b).cps = #[if b = true then 111 else 46] := by cases b <;> decide +kernel
theorem glue_fold : ∀ (bs : List Bool) (acc : Array Nat), (bs.map sgn).foldl (fun acc p => acc ++ ("" : Str).cps ++ p.cps) acc = acc ++ (bs.map fun b => if b = true then 111 else 46).toArray
  | [], acc => by simp
  | b :: bs, acc => by
    have e : ("" : Str).cps = #[] := by decide +kernel
    rw [List.map_cons, List.foldl_cons, glue_fold bs, sgn_cps, e]
    simp
theorem join_row (bs : List Bool) : Txt.join "" (bs.map sgn) = mkRow bs := by
  show Builtin.Str.glued "" (bs.map sgn) = mkRow bs
  unfold Builtin.Str.glued mkRow
  cases bs with
  | nil => decide +kernel
  | cons b bs =>
    rw [List.map_cons, List.drop_one, List.tail_cons, glue_fold, List.headD_cons, sgn_cps]
    simp
theorem SameBut.through {p l : Addr} {H0 H H' : Hp} (s : SameBut l H H') (s0 : SameBut p H0 H) (h : H0 l = none) : SameBut p H0 H' := fun a o na ha => s a o (fun e => by subst e; rw [h] at ha; cases ha) (s0 a o na ha)
theorem sum_sgn : ∀ bs : List Bool, ((bs.map sgn).map fun x : Str => x.length).sum = bs.length
  | [] => rfl
  | b :: bs => by
    have e1 : (sgn b).length = 1 := by show (sgn b).cps.size = 1; rw [sgn_cps]; rfl
    rw [List.map_cons, List.map_cons, List.sum_cons, sum_sgn bs, e1, List.length_cons]; omega
theorem SameBut.free {p l : Addr} {n : Nat} {H H' : Hp} (s : SameBut p H H') (hp : Pot p n H') (hl : H' l = none) : H l = none := by
  cases e : H l with
  | none => rfl
  | some o =>
    have := s l o (hp.ne hl).symm e
    rw [hl] at this; cases this
section
variable {X : Cx} {Hz : Hp} {ρ : Rho} {e o : Expr} {pos : Pos}
/-- ''.join(xs) -/
theorem er_join {bs : List Bool} {apos : Pos} (hz : bs.length ≤ 10000) (ho : ER X Hz ρ o (.str "")) (h : ED X Hz ρ e (Lst (bs.map fun b => D.str (sgn b)))) (hs : starEach [e] X.env = [(false, eval e X.env)] := by rfl) (hbase : attributeBase o "join" X.env (eval o X.env) = eval o X.env := by rfl) (hline : (apos.endLine == pos.line) = true := by rfl) :
    ER X Hz ρ (.Call (.Attribute o "join" apos) [e] [] pos) (.str (mkRow bs)) := by
  refine .by (pe_join pe_W pe_W hs hbase hline) fun σ H Q E q => ?_
  refine ho.run σ H _ E fun v H1 s1 r => ?_
  cases r
  refine ⟨⟨_, rfl⟩, ?_⟩
  refine h.run σ H1 _ (E.same s1) fun u H2 s2 ⟨l, us, ev, h2, r2⟩ => ?_
  have e2 : us = (bs.map sgn).map V.str := RepL.strs (by rw [List.map_map]; exact r2)
  subst e2 ev
  refine ⟨"", l, bs.map sgn, rfl, rfl, .inl (SqL.of h2), ?_, by rw [join_row]; exact q _ H2 (s1.trans s2) (.str _)⟩
  have e0 : ("" : Str).length = 0 := by decide +kernel
  rw [sum_sgn, e0]
  omega
/-- a drawn number -/
theorem dd_take {k : Nat} {p0 eu : Expr} {pp : Pos} {p : Addr} {u : Int} (F : DefOk X.prog X.w X.K X.mg X.base 1 "_law_take" spTake) (G : GX X k) (hk : 1 ≤ k) (hρ : ∀ Hz, ED X Hz ρ p0 (rf p).p) (he : ∀ Hz, ER X Hz ρ eu (.int u)) (hu : 0 < u ∧ u < 1073741824) (hg : Gl X "_law_take" := by rfl)
    (hs : starEach [p0, eu] X.env = (false, eval p0 X.env) :: starEach [eu] X.env := by rfl) (hs2 : starEach [eu] X.env = (false, eval eu X.env) :: starEach [] X.env := by rfl) (hpl : (backTo pos (starEach [eu] X.env)).any (·.1) = false := by rfl) :
    DD X ρ p 1 (.Call (.Name "_law_take" pp) [p0, eu] [] pos) (fun d => ∃ i, d = .int i ∧ 0 ≤ i ∧ i < u) :=
  dd_call (c' := 0) F (G.mono hk) hρ (da_cons (dd_er he) da_nil hs2) (fun l ⟨d, r, e1, e2, e3⟩ => by
    subst e1 e2 e3; exact ⟨u, rfl, hu, fun d h => h⟩) hg (by decide) hs hpl
end
/-- the rows so far -/
structure RowsSo (t w' i : Nat) (B : List (List Bool)) : Prop where
  len : B.length = i
  wid : ∀ r ∈ B, r.length = w'
  mark : ∀ (k j : Nat), k < i → j < w' → (k % w' = j ∨ j % t = k) → (B.getD k []).getD j false = true
theorem getD_lt {α : Type} {l : List α} {i : Nat} {d : α} (h : i < l.length) : l.getD i d = l[i] := by simp [h]
theorem RowsSo.good {t w' : Nat} {B : List (List Bool)} (h : RowsSo t w' t B) (t0 : 0 < t) (t1 : t ≤ 10) (w0 : 0 < w') (w1 : w' ≤ 10) : GoodB B := by
  refine ⟨by rw [h.len]; exact t0, by rw [h.len]; exact t1, ⟨w', w0, w1, h.wid, fun j hj => ?_⟩, fun r hr => ?_⟩
  · have hm : j % t < t := Nat.mod_lt _ t0
    have := h.mark (j % t) j hm hj (.inr rfl)
    refine ⟨B.getD (j % t) [], ?_, this⟩
    rw [getD_lt (show j % t < B.length by rw [h.len]; exact hm)]
    exact List.getElem_mem _
  · obtain ⟨k, hk, rfl⟩ := List.getElem_of_mem hr
    have hm : k % w' < w' := Nat.mod_lt _ w0
    have := h.mark k (k % w') (by rw [← h.len]; exact hk) hm (.inl rfl)
    rw [getD_lt hk] at this
    have hl := h.wid _ hr
    rw [getD_lt (show k % w' < (B[k]).length by rw [hl]; exact hm)] at this
    rw [← this]
    exact List.getElem_mem _
section
variable {P : Program} {w : World}
variable {K : PySem.W.Frag} {mg : Str → Option Value} {base : Heap}
def spRows : Sp := spD 101 (fun z : Nat × Nat => [.int z.1, .int z.2]) (fun z => 0 < z.1 ∧ z.1 ≤ 10 ∧ 0 < z.2 ∧ z.2 ≤ 10) (fun z d => ∃ B, GoodB B ∧ d = dRows B)
theorem ok_rows (T : Tx K mg) : DefOk P w K mg base 2 "_law_rows" spRows := by
  refine T.d__law_rows (spD_len fun _ => rfl) fun X vs H Q E ⟨f, cdv, A, outer, s, e⟩ G ⟨⟨t, w'⟩, p, n, vs', ev, r, hp, hn, ⟨ht0, ht1, hw0, hw1⟩, q⟩ => ?_
  subst e
  obtain ⟨v1, v2, rfl, r1, r2⟩ := r.two
  subst ev
  have E := env_p (N := N__law_rows) (Ps' := [rf p, R (.int t), R (.int w')]) (vs := [.ref p, v1, v2]) (H := H) (.cons rfl (.cons r1 (.cons r2 .nil)))
  have nd := G.nd
  have hn' : n + 101 ≤ 1000000 := hn
  -- way, rows = take(pot, 4), []
  refine s_cons (.by (ps_par (i := 3) (j := 4) G.calm nd rfl rfl (by decide) rfl rfl pa_W (by rfl)) ?_)
  refine .by (pa_cons pe_W (pa_cons (pe_lst pa_nil) pa_nil)) ?_
  refine (dd_take (ok_take T) G (by decide) (fun _ => ed_var 0 rfl) (fun _ => er_int) ⟨by decide, by decide⟩).run _ _ _ _ E hp (by omega) fun d v H1 ⟨way, ed, w0, w4⟩ s1 hp1 rv => ?_
  subst ed; cases rv
  refine ⟨Nat.zero_le _, fun l hl => ⟨_, _, rfl, ?_⟩⟩
  have hl0 : H l = none := s1.free hp1 hl
  have hlp : p ≠ l := hp1.ne hl
  have sl := same_upd (o := .lst []) hl
  have E1 := (((E.le (hp.le s1)).set 3 (P := R _) (.int way)).same sl).set 4 (P := rf l) rfl
  refine s_forR G .never T.n_range ⟨by omega, by omega⟩ E1 (er_var 1 rfl) (fun i σ' H' => ∃ (B : List (List Bool)) (n' : Nat), RowsSo t w' i B ∧ SameBut p H H' ∧ Pot p n' H' ∧ n' ≤ n + 1 + 10 * i ∧ LstAt H' l (B.map fun r => .str (mkRow r)) ∧
    Env [some (rf p), some (R (.int t)), some (R (.int w')), some (R (.int way)), some (rf l), none, none, none, none] σ' H') ?_ ?_ ?_
  · intro H2 s2 E2
    exact ⟨[], n + 1, ⟨rfl, fun _ h => (by cases h), fun _ _ h => absurd h (Nat.not_lt_zero _)⟩, (s1.trans (.of sl)).trans (.of s2), hp1.same (sl.trans s2), by omega, ⟨[], s2 _ _ upd_same, .nil⟩, E2⟩
  · rintro i σ' H' hi ⟨B, n', hB, sb, hp', hn2, hL, E2⟩
    have hit : i < t := by omega
    refine g_name 5 G ?_
    have E3 := E2.set 5 (P := R _) (.int (i : Int))
    refine s_setD 6 G E3 ad_nil fun m σ2 H2 hm s2 hM E4 => ?_
    have hm0 : H m = none := sb.free hp' hm
    have hml : l ≠ m := hL.ne hm
    have hmp : p ≠ m := hp'.ne hm
    refine s_forR G .never T.n_range ⟨by omega, by omega⟩ E4 (er_var 2 rfl) (fun j σ' H' => ∃ (bs : List Bool) (n' : Nat), bs.length = j ∧ (∀ k, k < j → (i % w' = k ∨ k % t = i) → bs.getD k false = true) ∧ SameBut p H H' ∧ Pot p n' H' ∧ n' ≤ n + 1 + 10 * i + j ∧
      LstAt H' l (B.map fun r => .str (mkRow r)) ∧ LstAt H' m (bs.map fun b => .str (sgn b)) ∧
      Env [some (rf p), some (R (.int t)), some (R (.int w')), some (R (.int way)), some (rf l), some (R (.int i)), some (rf m), none, none] σ' H') ?_ ?_ ?_
    · intro H3 s3 E5
      exact ⟨[], n', rfl, fun _ h => absurd h (Nat.not_lt_zero _), (sb.trans (.of s2)).trans (.of s3), hp'.same (s2.trans s3), by omega, hL.same (s2.trans s3), hM.same s3, E5⟩
    · rintro j σ3 H3 hj ⟨bs, n3, hbl, hbm, sb3, hp3, hn3, hL3, hM3, E5⟩
      have hjw : j < w' := by omega
      refine g_name 7 G ?_
      have E6 := E5.set 7 (P := R _) (.int (j : Int))
      refine s_mid 8 G (fun v H4 => ∃ b, v = .bl b ∧ SameBut p H3 H4 ∧ Pot p (n3 + 1) H4) ?_ fun v H4 ⟨b, ev, sb4, hp4⟩ => ?_
      · have keep : ∀ H4, Same H3 H4 → SameBut p H3 H4 ∧ Pot p (n3 + 1) H4 := fun H4 s4 => ⟨.of s4, (hp3.same s4).mono (by omega)⟩
        refine .by (pe_or pe_W (pe_or pe_W (pe_one pe_W))) ?_
        refine (er_lt (er_var 3 rfl) er_int).run _ _ _ E6.en fun v H4 s4 r4 => ?_
        cases r4
        refine ⟨_, rfl, ite2 (fun _ => ⟨_, rfl, keep _ s4⟩) fun _ => ?_⟩
        refine (er_lt (er_mod (by split <;> omega) (er_add (er_var 5 rfl) (er_var 7 rfl)) (er_max2 G.calm T.n_max (er_intI T.n_int (er_var 1 rfl)) (er_intI T.n_int (er_var 2 rfl)))) er_int).run _ _ _ (E6.same s4).en fun v H5 s5 r5 => ?_
        cases r5
        refine ⟨_, rfl, ite2 (fun _ => ⟨_, rfl, keep _ (s4.trans s5)⟩) fun _ => ?_⟩
        refine .by (pe_and pe_W (pe_one pe_W)) ?_
        refine (er_eqI (er_var 3 rfl) er_int).run _ _ _ (E6.same (s4.trans s5)).en fun v H6 s6 r6 => ?_
        cases r6
        refine ⟨_, rfl, ite2 (fun _ => ?_) fun _ => ⟨_, rfl, keep _ ((s4.trans s5).trans s6)⟩⟩
        have s46 := (s4.trans s5).trans s6
        refine .by (pe_cmpR op_gt pe_W pe_int (nomark _)) ?_
        refine (dd_take (ok_take T) G (by decide) (fun _ => ed_var 0 rfl) (fun _ => er_int) ⟨by decide, by decide⟩).run _ _ _ _ (E6.same s46) (hp3.same s46) (by show n3 + 1 ≤ 1000000; omega) fun d v H7 ⟨y, ed, _, _⟩ s7 hp7 r7 => ?_
        subst ed; cases r7
        exact ⟨_, _, rfl, rfl, _, rfl, (SameBut.of s46).trans s7, hp7⟩
      · subst ev
        have E7 := ((E6.le (hp3.le sb4)).set 8 (P := R _) (.bl b))
        have hM4 : LstAt H4 m (bs.map fun b => .str (sgn b)) := by
          obtain ⟨_, _, _, e, _⟩ := id hp3
          exact hM3.but sb4 e rfl hmp.symm
        have hL4 : LstAt H4 l (B.map fun r => .str (mkRow r)) := by
          obtain ⟨_, _, _, e, _⟩ := id hp3
          exact hL3.but sb4 e rfl hlp.symm
        refine s_append (d := .str (sgn (b || (decide ((i : Int) % (w' : Int) = (j : Int)) || decide ((j : Int) % (t : Int) = (i : Int)))))) E7 hM4 (ed_var 6 rfl) ((er_if (td_or3 (td_val (er_var 8 rfl)) (fun _ => td_eqI (er_mod (by omega) (er_var 5 rfl) (er_var 2 rfl)) (er_var 7 rfl)) (fun _ _ => td_eqI (er_mod (by omega) (er_var 7 rfl) (er_var 1 rfl)) (er_var 5 rfl))) (fun _ => er_str) (fun _ => er_str)).is ?_) ?_ fun H5 sb5 hM5 E8 => s_nil ?_
        · generalize (b || _) = bb
          cases bb <;> rfl
        · rw [List.length_map]; omega
        · refine ⟨bs ++ [b || (decide ((i : Int) % (w' : Int) = (j : Int)) || decide ((j : Int) % (t : Int) = (i : Int)))], n3 + 1, by simp [hbl], fun k hk hor => ?_, ?_, hp4.but sb5 hmp, by omega, ?_, ?_, E8.fg (.k (.k (.k (.k (.k (.k (.k (.d (.d .nil)))))))))⟩
          · rcases Nat.lt_succ_iff_lt_or_eq.mp hk with hk' | rfl
            · have := hbm k hk' hor
              rw [getD_lt (by omega)] at this
              rw [getD_lt (by simp; omega), List.getElem_append_left (by omega)]
              exact this
            · rw [getD_lt (by simp [hbl]), List.getElem_append_right (by omega)]
              simp [hbl]
              rcases hor with h | h
              · right; left; omega
              · right; right; omega
          · exact sb5.through (sb3.trans sb4) hm0
          · obtain ⟨_, e, _⟩ := id hM4
            exact hL4.but sb5 e rfl hml
          · rw [List.map_append]; exact hM5
    · rintro σ3 H3 ⟨bs, n3, hbl, hbm, sb3, hp3, hn3, hL3, hM3, E5⟩
      have hbl' : bs.length = w' := by rw [hbl]; simp
      refine s_append (d := .str (mkRow bs)) E5 hL3 (ed_var 4 rfl) (er_join (by omega) er_str (ed_here hM3 (ed_var 6 rfl))) ?_ fun H5 sb5 hL5 E8 => s_nil ?_
      · rw [List.length_map, hB.len]; omega
      · refine ⟨B ++ [bs], n3, ⟨by simp [hB.len], fun r hr => ?_, fun k j hk hj hor => ?_⟩, sb5.through sb3 hl0, hp3.but sb5 hlp, by omega, by rw [List.map_append]; exact hL5, E8.fg (.k (.k (.k (.k (.k (.d (.d (.d (.d .nil)))))))))⟩
        · rcases List.mem_append.mp hr with h | h
          · exact hB.wid r h
          · rw [List.mem_singleton.mp h]; exact hbl'
        · have hBl := hB.len
          rcases Nat.lt_succ_iff_lt_or_eq.mp hk with hk' | rfl
          · have := hB.mark k j hk' hj hor
            rw [getD_lt (l := B) (by omega)] at this
            rw [getD_lt (l := B ++ [bs]) (by simp; omega), List.getElem_append_left (by omega)]
            exact this
          · rw [getD_lt (l := B ++ [bs]) (by simp; omega), List.getElem_append_right (by omega)]
            simp [hBl]
            have := hbm j (by omega) hor
            simpa using this
  · rintro σ' H' ⟨B, n', hB, sb, hp', hn2, hL, E2⟩
    have hB' : RowsSo t w' t B := by simpa using hB
    exact s_ret E2 (er_tupL T.n_tuple (ed_here hL (ed_var 4 rfl))) fun v H3 s3 r3 => q _ v H3 ⟨B, hB'.good ht0 ht1 hw0 hw1, rfl⟩ (sb.trans (.of s3)) ((hp'.same s3).mono (by omega)) r3
end
end K31
namespace K31
open L2 PySem PySem.Spec PyProof.Rows
/-! ### comprehensions that draw -/
structure DT (X : Cx) (ρ : Rho) (p : Addr) (c : Nat) (e : Expr) (Post : Bool → Prop) : Prop where
  run : ∀ (σ : L2.St) (H : Hp) (n : Nat) (Q : Bool → Hp → Prop), Env ρ σ H → Pot p n H → n + c ≤ LIMP → (∀ b H', Post b → SameBut p H H' → Pot p (n + c) H' → Q b H') → WT X e σ H Q
structure DTs (X : Cx) (ρ : Rho) (p : Addr) (c : Nat) (ifs : List Expr) (Post : Bool → Prop) : Prop where
  run : ∀ (σ : L2.St) (H : Hp) (n : Nat) (Q : Bool → Hp → Prop), Env ρ σ H → Pot p n H → n + c ≤ LIMP → (∀ b H', Post b → SameBut p H H' → Pot p (n + c) H' → Q b H') → WTs X ifs σ H Q
structure SrcP (X : Cx) (Hz : Hp) (ρ : Rho) (p : Addr) (tg it : Expr) (ds : List D) : Prop where
  run : ∀ (σ : L2.St) (H : Hp) (R : It → Hp → Prop), En Hz ρ σ H → (∀ (J : It) (H1 : Hp) (G : Hp → Prop), Same H H1 → (∀ Hb, SameBut p H1 Hb → Le H1 Hb → G Hb) →
    Walk J ds.length G (fun i Ha v Hb => Same Ha Hb ∧ ∃ d, ds[i]? = some d ∧ (SameBut p H1 Ha → Le H1 Ha → Rep Hb d v)) → R J H1) → WI X tg it σ H R
section
variable {X : Cx} {Hz : Hp} {ρ : Rho} {p : Addr} {tg it elt e a b : Expr} {ifs : List Expr} {scope : Scope} {pos : Pos} {k : Nat} {α : Type}
theorem dts_nil : DTs X ρ p 0 [] (fun b => b = true) := ⟨fun σ H n Q E hp hn q pins s I => pts_nil.run pins s σ H Q I (q true H rfl (.refl _ H) hp)⟩
theorem dts_one {c : Nat} {P : Bool → Prop} (h : DT X ρ p c e P) : DTs X ρ p c [e] P := ⟨fun σ H n Q E hp hn q pins s I => (pts_one pt_W).run pins s σ H Q I (h.run σ H n Q E hp hn q)⟩
theorem dt_td {k : Bool} (h : ∀ Hz, TD X Hz ρ e k) : DT X ρ p 0 e (fun b => b = k) := ⟨fun σ H n Q E hp hn q => (h H).run σ H Q E.en fun H' s => q k H' rfl (.of s) (hp.same s)⟩
/-- a draw compared with a number -/
theorem dt_eqI {c : Nat} {P : D → Prop} {j : Int} (h : DD X ρ p c a P) (hi : ∀ d, P d → ∃ i, d = .int i) (hb : ∀ Hz, ER X Hz ρ b (.int j)) : DT X ρ p c (.Compare a [.Eq] [b] pos) (fun _ => True) := by
  refine ⟨fun σ H n Q E hp hn q => .by (pt_cmpR op_eq pe_W pe_W (nomark _)) ?_⟩
  refine h.run σ H n _ E hp hn fun d v H1 pd s1 hp1 r1 => ?_
  obtain ⟨i, rfl⟩ := hi d pd
  refine (hb H1).run σ H1 _ (E.le (hp.le s1)).en fun u H2 s2 r2 => ?_
  cases r1; cases r2
  exact ⟨rfl, _, rfl, q _ H2 trivial (s1.trans (.of s2)) (hp1.same s2)⟩
theorem dt_gtI {c : Nat} {P : D → Prop} {j : Int} (h : DD X ρ p c a P) (hi : ∀ d, P d → ∃ i, d = .int i) (hb : ∀ Hz, ER X Hz ρ b (.int j)) : DT X ρ p c (.Compare a [.Gt] [b] pos) (fun _ => True) := by
  refine ⟨fun σ H n Q E hp hn q => .by (pt_cmpR op_gt pe_W pe_W (nomark _)) ?_⟩
  refine h.run σ H n _ E hp hn fun d v H1 pd s1 hp1 r1 => ?_
  obtain ⟨i, rfl⟩ := hi d pd
  refine (hb H1).run σ H1 _ (E.le (hp.le s1)).en fun u H2 s2 r2 => ?_
  cases r1; cases r2
  exact ⟨i, j, rfl, rfl, _, rfl, q _ H2 trivial (s1.trans (.of s2)) (hp1.same s2)⟩
theorem srcP_T {ds : List D} (h : SrcT X Hz ρ tg it ds) : SrcP X Hz ρ p tg it ds := ⟨fun σ H R E q => h.run σ H R E fun J H1 G s1 g1 gs wk =>
  q J H1 G s1 (fun Hb _ l => gs H1 Hb l g1) (wk.mono (fun _ g => g) fun i H x H' hi g y => ⟨y.1, let ⟨d, e, r⟩ := y.2; ⟨d, e, fun _ l => r l⟩⟩)⟩
theorem srcP_L {ds : List D} {l : Addr} (h : ED X Hz ρ it (rf l).p) (hl : LstAt Hz l ds) (hp : l ≠ p) : SrcP X Hz ρ p tg it ds := by
  refine ⟨fun σ H R E q => .by (pi_list pe_W) ?_⟩
  refine h.run σ H _ E fun v H1 s1 ev => ?_
  obtain rfl : v = .ref l := ev
  obtain ⟨vs, h1, r1⟩ := hl.same (E.s0.trans s1)
  refine ⟨_, rfl, ⟨_, SqL.of h1⟩, q _ H1 (fun H => H l = some (.lst vs)) s1 (fun Hb sb _ => sb _ _ hp h1) ?_⟩
  rw [r1.length]
  refine Walk.mono walk_list (fun H g => SqL.of g) fun i Ha v Hb hi g y => ?_
  obtain ⟨rfl, hx⟩ := y
  obtain ⟨d, hd, rd⟩ := r1.getV hx
  exact ⟨Same.refl _, d, hd, fun _ l => rd.le l⟩
/-- a list that the expression makes -/
theorem srcP_N {ds : List D} {p0 : Addr} (h : ED X Hz ρ it (Lst ds)) (hp : ∃ o, Hz p = some o ∧ ∀ us, o = .lst us → us.length ≠ ds.length) : SrcP X Hz ρ p tg it ds := by
  refine ⟨fun σ H R E q => .by (pi_list pe_W) ?_⟩
  refine h.run σ H _ E fun v H1 s1 ev => ?_
  obtain ⟨l, vs, rfl, h1, r1⟩ := ev
  have hlp : l ≠ p := by
    intro z; subst z
    obtain ⟨o, e, hne⟩ := hp
    have := (E.s0.trans s1) _ _ e
    rw [h1] at this; cases this
    exact hne _ rfl r1.length.symm
  refine ⟨_, rfl, ⟨_, SqL.of h1⟩, q _ H1 (fun H => H l = some (.lst vs)) s1 (fun Hb sb _ => sb _ _ hlp h1) ?_⟩
  rw [r1.length]
  refine Walk.mono walk_list (fun H g => SqL.of g) fun i Ha v Hb hi g y => ?_
  obtain ⟨rfl, hx⟩ := y
  obtain ⟨d, hd, rd⟩ := r1.getV hx
  exact ⟨Same.refl _, d, hd, fun _ l => rd.le l⟩
theorem rl_core {J : It} {Gd : Hp → Prop} {L : List α} {enc : α → D} {ρ' : α → Rho} {c c1 c2 n : Nat} {σ : L2.St} {H : Hp} {Q : VK} (Out : Nat → List D → Prop) (Pb : α → Bool → Prop) (Pd : α → D → Prop) (own : List (Str × Nat)) (E : Env ρ σ H) (hp : Pot p n H) (hn : n + c * L.length ≤ LIMP)
    (gs : ∀ Hb, SameBut p H Hb → Le H Hb → Gd Hb) (wk : Walk J L.length Gd (fun i Ha v Hb => Same Ha Hb ∧ ∃ d, (L.map enc)[i]? = some d ∧ (SameBut p H Ha → Le H Ha → Rep Hb d v))) (hl : L.length < 100000) (hcc : c1 + c2 ≤ c)
    (ht : ∀ s H0 C cl fp, ∀ x ∈ L, TgD (Cx.bk X s H0 scope C cl fp) (wipeR ρ (own.map (·.2))) (ρ' x) tg (own.map (·.2)) (enc x))
    (hc : ∀ s H0 C cl fp, ∀ x ∈ L, DTs (Cx.bk X s H0 scope C cl fp) (ρ' x) p c1 ifs (Pb x))
    (he : ∀ s H0 C cl fp, ∀ x ∈ L, DD (Cx.bk X s H0 scope C cl fp) (ρ' x) p c2 elt (Pd x))
    (o0 : Out 0 []) (oN : ∀ i x out, L[i]? = some x → Out i out → Pb x false → Out (i + 1) out) (oY : ∀ i x out d, L[i]? = some x → Out i out → Pb x true → Pd x d → Out (i + 1) (out ++ [d]))
    (q : ∀ out v H', Out L.length out → out.length ≤ L.length → SameBut p H H' → Pot p (n + c * L.length) H' → Lst out H' v → Q v H') :
    tLc (fun _ H R => R J H) (AllG X scope tg) (AllT X scope ifs) (AllE X scope elt) (own.map (·.2)) σ H Q := by
  intro D hD
  have hp1 := hp
  have s1 := Same.refl H
  have hDp : p ≠ D := hp1.ne hD
  have hHD : H D = none := s1.free hD
  refine lc_it wk (fun i H' => SameBut p H H' ∧ Le H H' ∧ Pot p (n + c * i) H' ∧ ∃ out acc, Out i out ∧ out.length ≤ i ∧ H' D = some (.lst acc) ∧ RepL H' out acc) ⟨.of (same_upd hD), .of (same_upd hD), hp1.same (same_upd hD), [], [], o0, Nat.le_refl _, upd_same, .nil⟩ (fun i H' _ p => gs _ p.1 p.2.1) (fun i v Ha Hb hi' pv y => ?_) fun H' pv => ?_
  · obtain ⟨sa, la, hpa, out, acc, ho, hol, hacc, racc⟩ := pv
    obtain ⟨sab, d, hd, rd⟩ := y
    rw [List.getElem?_map] at hd
    have hx : L[i]? = some L[i] := List.getElem?_eq_getElem hi'
    rw [hx] at hd
    cases hd
    have rv := rd sa la
    have hmem : L[i] ∈ L := List.getElem_mem hi'
    have Eb : Env ρ σ Hb := (E.same s1).le (la.trans (.of sab))
    have hb1 : c * (i + 1) ≤ c * L.length := Nat.mul_le_mul_left c hi'
    have hb2 : c * (i + 1) = c * i + c := Nat.mul_succ c i
    intro s H0 C cl fp
    refine (ht s H0 C cl fp _ hmem).run σ Hb v _ (Eb.wipe _) rv fun σ2 E2 w2 => ⟨w2, ?_⟩
    intro s' H0' C' cl' fp'
    refine (hc s' H0' C' cl' fp' _ hmem).run σ2 Hb (n + c * i) _ E2 (hpa.same sab) (by omega) fun b H3 pb s3 hp3 => ?_
    have hacc3 : H3 D = some (.lst acc) := s3 _ _ hDp.symm (sab _ _ hacc)
    have l3 : Le Ha H3 := (Le.of sab).trans ((hpa.same sab).le s3)
    cases b with
    | false =>
      refine iteF ⟨(sa.trans (.of sab)).trans s3, la.trans l3, hp3.mono (by omega), out, acc, oN i _ out hx ho pb, by omega, hacc3, racc.le l3⟩
    | true =>
      refine iteT ?_
      intro s4 H04 C4 cl4 fp4
      refine (he s4 H04 C4 cl4 fp4 _ hmem).run σ2 H3 (n + c * i + c1) _ (E2.le ((hpa.same sab).le s3)) hp3 (by omega) fun d y H4 pd s4' hp4 r4 => ?_
      have h4 : H4 D = some (.lst acc) := s4' _ _ hDp.symm hacc3
      have l4 : Le Ha H4 := l3.trans (hp3.le s4')
      have lu : Le H4 (upd H4 D (.lst (acc ++ [y]))) := Le.upd h4 rfl
      have el := racc.length
      have sbu : SameBut D H4 (upd H4 D (.lst (acc ++ [y]))) := .upd
      have sb4 : SameBut p H H4 := ((sa.trans (.of sab)).trans s3).trans s4'
      refine ⟨acc, h4, Nat.lt_of_lt_of_le (by omega : acc.length < 100000) (by decide), sbu.through sb4 hD, (la.trans l4).trans lu, (hp4.but sbu hDp).mono (by omega), out ++ [d], acc ++ [y], oY i _ out d hx ho pb pd, by simp; omega, upd_same, ((racc.le l4).append (.cons r4 .nil)).le lu⟩
  · obtain ⟨sa, la, hpa, out, acc, ho, hol, hacc, racc⟩ := pv
    exact q out _ H' ho hol ((SameBut.of s1).trans sa) hpa ⟨D, acc, rfl, hacc, racc⟩
theorem rl_lc {L : List α} {enc : α → D} {ρ' : α → Rho} {c c1 c2 n : Nat} {σ : L2.St} {H : Hp} {Q : VK} (Out : Nat → List D → Prop) (Pb : α → Bool → Prop) (Pd : α → D → Prop) (own : List (Str × Nat)) (E : Env ρ σ H) (hp : Pot p n H) (hn : n + c * L.length ≤ LIMP)
    (hi : SrcP X H ρ p tg it (L.map enc)) (hl : L.length < 100000) (hcc : c1 + c2 ≤ c)
    (ht : ∀ s H0 C cl fp, ∀ x ∈ L, TgD (Cx.bk X s H0 scope C cl fp) (wipeR ρ (own.map (·.2))) (ρ' x) tg (own.map (·.2)) (enc x))
    (hc : ∀ s H0 C cl fp, ∀ x ∈ L, DTs (Cx.bk X s H0 scope C cl fp) (ρ' x) p c1 ifs (Pb x))
    (he : ∀ s H0 C cl fp, ∀ x ∈ L, DD (Cx.bk X s H0 scope C cl fp) (ρ' x) p c2 elt (Pd x))
    (o0 : Out 0 []) (oN : ∀ i x out, L[i]? = some x → Out i out → Pb x false → Out (i + 1) out) (oY : ∀ i x out d, L[i]? = some x → Out i out → Pb x true → Pd x d → Out (i + 1) (out ++ [d]))
    (q : ∀ out v H', Out L.length out → out.length ≤ L.length → SameBut p H H' → Pot p (n + c * L.length) H' → Lst out H' v → Q v H') :
    tLcX X elt tg it ifs scope own σ H Q := by
  refine hi.run σ H _ E.en fun J H1 Gd s1 gs wk => ?_
  rw [show (L.map enc).length = L.length by simp] at wk
  exact rl_core Out Pb Pd own (E.same s1) (hp.same s1) hn gs wk hl hcc ht hc he o0 oN oY fun out v H' a b c => q out v H' a b ((SameBut.of s1).trans c)
theorem dl_lc {L : List α} {enc : α → D} {ρ' : α → Rho} {c c1 c2 n : Nat} {σ : L2.St} {H : Hp} {Q : VK} (Out : Nat → List D → Prop) (Pb : α → Bool → Prop) (Pd : α → D → Prop) (G : GX X k) (own : List (Str × Nat)) (E : Env ρ σ H) (hp : Pot p n H) (hn : n + c * L.length ≤ LIMP)
    (hi : SrcP X H ρ p tg it (L.map enc)) (ok : BlkOk X.N X.env.scope scope own) (hl : L.length < 100000) (hcc : c1 + c2 ≤ c)
    (ht : ∀ s H0 C cl fp, ∀ x ∈ L, TgD (Cx.bk X s H0 scope C cl fp) (wipeR ρ (own.map (·.2))) (ρ' x) tg (own.map (·.2)) (enc x))
    (hc : ∀ s H0 C cl fp, ∀ x ∈ L, DTs (Cx.bk X s H0 scope C cl fp) (ρ' x) p c1 ifs (Pb x))
    (he : ∀ s H0 C cl fp, ∀ x ∈ L, DD (Cx.bk X s H0 scope C cl fp) (ρ' x) p c2 elt (Pd x))
    (o0 : Out 0 []) (oN : ∀ i x out, L[i]? = some x → Out i out → Pb x false → Out (i + 1) out) (oY : ∀ i x out d, L[i]? = some x → Out i out → Pb x true → Pd x d → Out (i + 1) (out ++ [d]))
    (q : ∀ out v H', Out L.length out → out.length ≤ L.length → SameBut p H H' → Pot p (n + c * L.length) H' → Lst out H' v → Q v H') (hs : ∀ x, foldedSetIterable it X.env x = pure x := by intro _; rfl) :
    WE X (.ListComp elt [⟨tg, it, ifs, 0⟩] scope pos) σ H Q :=
  we_lc G own ok (rl_lc Out Pb Pd own E hp hn hi hl hcc ht hc he o0 oN oY q) hs
end
end K31
namespace K31
open L2 PySem PySem.Spec PyProof.Rows
theorem pot_ne_dots {p l : Addr} {n : Nat} {H : Hp} {L : List Dot} (hp : Pot p n H) (hl : LstAt H l (L.map dDot)) : l ≠ p := by
  intro z; subst z
  obtain ⟨_, _, _, e, _⟩ := hp
  obtain ⟨us, e2, r⟩ := hl
  rw [e] at e2; cases e2
  cases L with
  | nil => cases r
  | cons d L => cases r with | cons r t => cases r
section
variable {P : Program} {w : World}
variable {K : PySem.W.Frag} {mg : Str → Option Value} {base : Heap}
/-- some of a list's dots -/
def spPart : Sp := fun vs H Q _ => ∃ (p l : Addr) (n : Nat) (L : List Dot) (u : Int), vs = [.ref p, .ref l, .int u] ∧ Pot p n H ∧ n + L.length ≤ LIMP ∧ LstAt H l (L.map dDot) ∧ l ≠ p ∧ (0 < u ∧ u < 1073741824) ∧ L.length ≤ 1000 ∧
  ∀ M v H', M.Sublist L → SameBut p H H' → Pot p (n + L.length) H' → Rep H' (dLit M) v → Q v H'
theorem ok_part (T : Tx K mg) : DefOk P w K mg base 2 "_law_part" spPart := by
  refine T.d__law_part (fun vs H Q E ⟨p, l, n, L, u, ev, _⟩ => by subst ev; rfl) fun X vs H Q E ⟨f, cdv, A, outer, s, e⟩ G ⟨p, l, n, L, u, ev, hp, hn, hl, hlp, hu, hL, q⟩ => ?_
  subst e ev
  have E := env_p (N := N__law_part) (Ps' := [rf p, rf l, R (.int u)]) (vs := [.ref p, .ref l, .int u]) (H := H) (.cons rfl (.cons rfl (.cons (.int u) .nil)))
  refine s_cons (.by (ps_ret (pe_callTy call_tuple_of (by rfl) T.n_tuple (by decide +kernel) (pa_cons pe_W pa_nil))) ?_)
  refine dl_lc (L := L) (enc := dDot) (ρ' := fun x => [some (rf p), some (rf l), some (R (.int u)), some (R (dDot x))]) (c := 1) (c1 := 1) (c2 := 0) (fun i out => ∃ M : List Dot, M.Sublist (L.take i) ∧ out = M.map dDot) (fun _ _ => True) (fun x d => d = dDot x) G [("_law_one", 3)] E hp (by omega)
    (srcP_L (ed_var 1 rfl) hl hlp) (blkOk_by (N := N__law_part) (sc := defScope s_law_part) (by decide +kernel)) (by omega) (by omega) (fun s H0 C cl fp x hx => tg_name 3 G.nd)
    (fun s H0 C cl fp x hx => dts_one (dt_eqI (dd_take (ok_take T) G.bk (by decide) (fun _ => ed_var 0 rfl) (fun _ => er_var 2 rfl) hu) (fun d ⟨i, e, _⟩ => ⟨i, e⟩) (fun _ => er_int)))
    (fun s H0 C cl fp x hx => dd_er fun _ => er_var 3 rfl) ⟨[], by simp, rfl⟩ (fun i x out hx ⟨M, hM, e⟩ _ => ⟨M, by rw [take_snoc hx]; exact hM.trans (List.sublist_append_left _ _), e⟩)
    (fun i x out d hx ⟨M, hM, e⟩ _ ed => ⟨M ++ [x], by rw [take_snoc hx]; exact hM.append (List.Sublist.refl _), by subst e ed; simp⟩) fun out v H' ⟨M, hM, e⟩ _ sb hp' hv => ?_
  subst e
  obtain ⟨m, us, ev, hm, ru⟩ := hv
  subst ev
  refine ⟨_, us, rfl, .inl ⟨SqL.of hm, fun t ht => q M _ _ (by rw [List.take_length] at hM; exact hM) (sb.trans (.of (same_upd ht))) ((by rw [Nat.one_mul] at hp'; exact hp' : Pot p (n + L.length) H').same (same_upd ht)) (.tup upd_same (ru.le (.of (same_upd ht))))⟩⟩
/-! ### pictures -/
def spLit : Sp := spD 102 (fun B : List (List Bool) => [dRows B]) GoodB (fun B d => ∃ l, Lit B l ∧ d = dLit l)
theorem ok_lit (T : Tx K mg) : DefOk P w K mg base 3 "_law_lit" spLit := by
  refine T.d__law_lit (spD_len fun _ => rfl) fun X vs H Q E ⟨f, cdv, A, outer, s, e⟩ G ⟨B, p, n, vs', ev, r, hp, hn, hB, q⟩ => ?_
  subst e
  obtain ⟨v1, rfl, r1⟩ := r.one
  subst ev
  have E := env_p (N := N__law_lit) (Ps' := [rf p, R (dRows B)]) (vs := [.ref p, v1]) (H := H) (.cons rfl (.cons r1 .nil))
  have hn' : n + 102 ≤ 1000000 := hn
  have hd100 := hB.dots_len
  refine s_cons (.by (ps_par (i := 2) (j := 3) G.calm G.nd rfl rfl (by decide) rfl rfl pa_W (by rfl)) ?_)
  refine .by (pa_cons pe_W (pa_cons pe_W pa_nil)) ?_
  refine (el_call (ok_dots T) (G.mono (by decide)) B (fun r hr => ⟨hB.le10 r hr, hB.h1⟩) (ad_one (er_var 1 rfl))).run _ _ _ E.en fun v H1 s1 ⟨l, us, ev, hl, ru⟩ => ?_
  subst ev
  have hL : LstAt H1 l ((dotsOf B).map dDot) := ⟨us, hl, ru⟩
  have hp1 := hp.same s1
  have hlp := pot_ne_dots hp1 hL
  refine (dd_take (ok_take T) G (by decide) (fun _ => ed_var 0 rfl) (fun _ => er_int) ⟨by decide, by decide⟩).run _ _ _ _ (E.same s1) hp1 (by show n + 1 ≤ 1000000; omega) fun d v H2 ⟨way, ed, w0, w7⟩ s2 hp2 rv => ?_
  subst ed; cases rv
  refine ⟨_, _, rfl, ?_⟩
  have hL2 : LstAt H2 l ((dotsOf B).map dDot) := by
    obtain ⟨_, _, _, e, _⟩ := id hp1
    exact hL.but s2 e rfl hlp
  have E2 := (((E.same s1).le (hp1.le s2)).set 2 (P := rf l) rfl).set 3 (P := R _) (.int way)
  have fin : ∀ (c : Nat) (l : List Dot) (v : V) (H3 H4 : Hp), c ≤ 102 → Lit B l → SameBut p H H3 → Pot p (n + c) H3 → Same H3 H4 → Rep H4 (dLit l) v → Q v H4 := fun c l v H3 H4 hc hl sb hpp s r => q _ v H4 ⟨l, hl, rfl⟩ (sb.trans (.of s)) ((hpp.same s).mono (by omega)) r
  have sb2 := (SameBut.of (l := p) s1).trans s2
  refine s_if E2 (td_lt (er_var 3 rfl) er_int) (fun _ H3 s3 E3 => ?_) fun hw H3 s3 E3 => s_nil ?_
  · have hL3 := hL2.same s3
    refine s_ret (P := fun H v => ∃ l, Lit B l ∧ Rep H (dLit l) v) E3 (ed_if (td_eqI (er_var 3 rfl) er_int) (fun _ => (er_tupL T.n_tuple (ed_here hL3 (ed_var 2 rfl))).imp fun H v r => ⟨dotsOf B, lit_all B, r⟩) fun _ => (er_tup ad_nil).imp fun H v r => ⟨[], lit_nil B, r⟩) fun v H4 s4 ⟨l, hl, r⟩ => ?_
    exact fin 1 l v H2 H4 (by decide) hl sb2 hp2 (s3.trans s4) r
  · have hL3 := hL2.same s3
    have hp3 := hp2.same s3
    obtain ⟨r0, B', rfl⟩ : ∃ r0 B', B = r0 :: B' := by
      cases B with
      | nil => exact absurd hB.h0 (by decide)
      | cons r0 B' => exact ⟨_, _, rfl⟩
    have hr0 := hB.le10 r0 List.mem_cons_self
    have hB1 := hB.h1
    have hB0 := hB.h0
    have mrow : (mkRow r0).length = r0.length := mkRow_len r0
    have dlen : ((r0 :: B').map fun r => D.str (mkRow r)).length = (r0 :: B').length := List.length_map ..
    refine s_mid 4 G (fun v H4 => ∃ i : Int, v = .int i ∧ SameBut p H3 H4 ∧ Pot p (n + 2) H4) ?_ fun v H4 ⟨at_, ev, sb4, hp4⟩ => ?_
    · refine (dd_take (ok_take T) G (by decide) (fun _ => ed_var 0 rfl) (fun _ => er_max2 G.calm T.n_max (er_lenT T.n_len (er_var 1 rfl)) (er_lenS T.n_len (by rw [mrow]; exact Nat.le_trans hr0 (by decide)) (er_ixt (er_var 1 rfl) er_int (atI_nat (j := 0) rfl)))) ?_).run _ _ _ _ E3 hp3 (by show n + 1 + 1 ≤ 1000000; omega) fun d v H4 ⟨i, ed, _, _⟩ s4 hp4 rv => ?_
      · rw [dlen, mrow]
        split <;> omega
      · subst ed; cases rv
        exact ⟨i, rfl, s4, hp4⟩
    · subst ev
      have hL4 : LstAt H4 l ((dotsOf (r0 :: B')).map dDot) := by
        obtain ⟨_, _, _, e, _⟩ := id hp3
        exact hL3.but sb4 e rfl hlp
      have E4 := (E3.le (hp3.le sb4)).set 4 (P := R _) (.int at_)
      have sb5 := (sb2.trans (.of s3)).trans sb4
      refine s_if E4 (td_eqI (er_var 3 rfl) er_int) (fun _ H5 s5 E5 => ?_) fun hw2' H5 s5 E5 => s_nil ?_
      · refine s_ret E5 (er_tupL T.n_tuple (ed_lc (L := dotsOf (r0 :: B')) (enc := dDot) (fun d => decide (d.1 = at_)) dDot G [("_law_dot", 5)] (src_lst (ed_here (hL4.same s5) (ed_var 2 rfl))) (blkOk_by (N := N__law_lit) (sc := defScope s_law_lit) (by decide +kernel)) (by omega) (fun s H0 C cl fp x hx => tg_name 5 G.nd)
          (fun s H0 C cl fp x hx => ts_one (td_eqI (er_ixt (er_var 5 rfl) er_int rfl) (er_var 4 rfl))) fun s H0 C cl fp x hx _ => er_var 5 rfl)) fun v H6 s6 r6 => ?_
        exact fin 2 _ v H4 H6 (by decide) ((lit_all _).sub List.filter_sublist) sb5 hp4 (s5.trans s6) r6
      · refine s_if E5 (td_eqI (er_var 3 rfl) er_int) (fun _ H6 s6 E6 => ?_) fun hw3 H6 s6 E6 => s_nil ?_
        · refine s_ret E6 (er_tupL T.n_tuple (ed_lc (L := dotsOf (r0 :: B')) (enc := dDot) (fun d => decide (d.2 = at_)) dDot G [("_law_dot", 5)] (src_lst (ed_here (hL4.same (s5.trans s6)) (ed_var 2 rfl))) (blkOk_by (N := N__law_lit) (sc := defScope s_law_lit) (by decide +kernel)) (by omega) (fun s H0 C cl fp x hx => tg_name 5 G.nd)
            (fun s H0 C cl fp x hx => ts_one (td_eqI (er_ixt (er_var 5 rfl) er_int rfl) (er_var 4 rfl))) fun s H0 C cl fp x hx _ => er_var 5 rfl)) fun v H7 s7 r7 => ?_
          exact fin 2 _ v H4 H7 (by decide) ((lit_all _).sub List.filter_sublist) sb5 hp4 ((s5.trans s6).trans s7) r7
        · have s56 := s5.trans s6
          refine s_cons (.by (ps_ret pe_W) (we_call (ok_part T) G (.by (pa_cons (pv 0) (pa_cons (pv 2) (pa_cons (pe_op op_sub (pv 3) pe_int) pa_nil))) ?_)))
          obtain ⟨v0, e0, ev0⟩ := E6.at_ 0 (rf p) rfl
          obtain ⟨v2, e2, ev2⟩ := E6.at_ 2 (rf l) rfl
          obtain ⟨v3, e3, ev3⟩ := E6.at_ 3 (R (.int way)) rfl
          obtain rfl : v0 = .ref p := ev0
          obtain rfl : v2 = .ref l := ev2
          have : v3 = .int way := by cases (show Rep H6 (.int way) v3 from ev3); rfl
          subst this
          have hw2 : ¬ way < 2 := by simpa using hw
          refine ⟨_, e0, _, e2, _, e3, way, 2, rfl, rfl, p, l, n + 2, dotsOf (r0 :: B'), way - 2, rfl, hp4.same s56, ?_, hL4.same s56, hlp, ⟨?_, by omega⟩, by omega, fun M v H7 hM sb7 hp7 r7 => ?_⟩
          · show n + 2 + _ ≤ 1000000
            omega
          · have h2 : ¬ way = 2 := by simpa using hw2'
            omega
          · exact q _ v H7 ⟨M, (lit_all _).sub hM, rfl⟩ ((sb5.trans (.of s56)).trans sb7) (hp7.mono (by omega)) r7
end
end K31
namespace K31
open L2 PySem PySem.Spec PyProof.Rows
section
variable {X : Cx} {Hz : Hp} {ρ : Rho} {a b c e : Expr} {pos p2 : Pos} {k : Nat}
theorem el_slice {ds : List D} {lo hi : Option Expr} {l h : Option Int} (ha : ED X Hz ρ a (Lst ds)) (hl : OD X Hz ρ lo l) (hh : OD X Hz ρ hi h) : ED X Hz ρ (.Subscript a (.Slice lo hi none p2) pos) (Lst (cutD ds l h)) := by
  refine .by (pe_slice sl_list pe_W po_W po_W) fun σ H Q E q => ?_
  refine ha.run σ H _ E fun x H1 s1 p1 => ?_
  refine fun pins s I => hl.run σ H1 pins s _ (E.same s1) I fun H2 s2 => ?_
  refine fun pins s I => hh.run σ H2 pins s _ (E.same (s1.trans s2)) I fun H3 s3 => ?_
  obtain ⟨a, vs, rfl, h1, r⟩ := stb_Lst.st (s2.trans s3) p1
  exact ⟨a, vs, rfl, SqL.of h1, fun p hp => q _ _ (((s1.trans s2).trans s3).trans (same_upd hp)) ⟨p, _, rfl, upd_same, (r.cut l h).le (.of (same_upd hp))⟩⟩
theorem RepL.rep {H : Hp} {ds : List D} {vs : List V} (r : RepL H ds vs) : ∀ n : Nat, RepL H (List.replicate n ds).flatten (List.replicate n vs).flatten
  | 0 => .nil
  | n + 1 => by
    show RepL H (ds :: List.replicate n ds).flatten (vs :: List.replicate n vs).flatten
    rw [List.flatten_cons, List.flatten_cons]
    exact r.append (RepL.rep r n)
theorem el_rep {ds : List D} {i : Int} (hi : 0 ≤ i ∧ i < 1000) (hz : ds.length ≤ 1000) (ha : ED X Hz ρ a (Lst ds)) (hb : ER X Hz ρ b (.int i)) : ED X Hz ρ (.BinOp a .Mult b pos) (Lst (List.replicate i.toNat ds).flatten) := by
  refine ed_op op_rep stb_Lst ha hb fun x y H p1 p2 Q q => ?_
  obtain ⟨l, vs, rfl, h1, r⟩ := p1
  cases p2
  have e := r.length
  have hm : vs.length * i.toNat ≤ 1000 * 1000 := Nat.mul_le_mul (by omega) (by omega)
  exact ⟨l, i, vs, rfl, rfl, h1, by omega, by omega, Nat.le_trans hm (by decide), fun p hp => q _ _ (same_upd hp) ⟨p, _, rfl, upd_same, (RepL.rep r _).le (.of (same_upd hp))⟩⟩
theorem el_cat {ds es : List D} (hz : ds.length + es.length ≤ 100000) (ha : ED X Hz ρ a (Lst ds)) (hb : ED X Hz ρ b (Lst es)) : ED X Hz ρ (.BinOp a .Add b pos) (Lst (ds ++ es)) := by
  refine ed_op op_cat stb_Lst ha hb fun x y H p1 p2 Q q => ?_
  obtain ⟨l, vs, rfl, h1, r⟩ := p1
  obtain ⟨m, us, rfl, h2, r'⟩ := p2
  have e1 := r.length
  have e2 := r'.length
  have hs : (100000 : Nat) ≤ sizeLine := by decide
  exact ⟨l, m, vs, us, rfl, rfl, h1, h2, by omega, fun p hp => q _ _ (same_upd hp) ⟨p, _, rfl, upd_same, (r.append r').le (.of (same_upd hp))⟩⟩
variable {σ : L2.St} {H : Hp} {D' : Ends} {rest u v : List Stmt}
/-- an if whose ways meet in M -/
theorem s_ifM {k : Bool} (M : L2.St → Hp → Prop) (E : Env ρ σ H) (hc : TD X H ρ c k) (h1 : k = true → ∀ H', Same H H' → Env ρ σ H' → WSs X u { D' with nx := M } σ H')
    (h2 : k = false → ∀ H', Same H H' → Env ρ σ H' → WSs X v { D' with nx := M } σ H') (hM : ∀ σ' H', M σ' H' → WSs X rest D' σ' H') : WSs X (.If c u v pos :: rest) D' σ H := by
  refine s_cons (.by (ps_if pt_W pss_W pss_W) ?_)
  refine hc.run σ H _ E.en fun H' s => ?_
  have lift : ∀ {st : List Stmt}, WSs X st { D' with nx := M } σ H' → WSs X st { D' with nx := fun σ' H' => WSs X rest D' σ' H' } σ H' := fun {st} h pins s I =>
    thn (h pins s I) fun f s' hs => by
      cases f with
      | next => obtain ⟨σ', H', I', m⟩ := hs; exact ⟨σ', H', I', hM σ' H' m⟩
      | brk => exact hs
      | cont => exact hs
      | ret v => exact hs
  cases k with
  | true => exact iteT (lift (h1 rfl H' s (E.same s)))
  | false => exact iteF (lift (h2 rfl H' s (E.same s)))
end
theorem tLc_at {it : TI} {g : TG} {tt : TT} {te : TE} {own : List Nat} {σ : L2.St} {H : Hp} {Q : VK} (h : it σ H (fun J H1 => tLc (fun _ H R => R J H) g tt te own σ H1 Q)) : tLc it g tt te own σ H Q := h
theorem cutD_1 {d : D} {ds : List D} : cutD (d :: ds) none (some 1) = [d] := by
  unfold cutD
  have e1 : HT.sIx (d :: ds).length 0 none = 0 := rfl
  have e2 : HT.sIx (d :: ds).length (d :: ds).length (some 1) = 1 := by
    have := HT.sIx_nat (d :: ds).length (d :: ds).length 1
    rw [show ((1 : Nat) : Int) = 1 from rfl] at this
    rw [this]; simp
  rw [e1, e2]; rfl
theorem flatten_rep1 {α : Type} (d : α) : ∀ n : Nat, (List.replicate n [d]).flatten = List.replicate n d
  | 0 => rfl
  | n + 1 => by rw [List.replicate_succ, List.flatten_cons, flatten_rep1 d n, List.replicate_succ]; rfl
section
variable {P : Program} {w : World}
variable {K : PySem.W.Frag} {mg : Str → Option Value} {base : Heap}
def spFilm : Sp := spD 420 (fun z : List (List Bool) × Nat => [dRows z.1, .int z.2]) (fun z => GoodB z.1 ∧ 0 < z.2 ∧ z.2 ≤ 4) (fun z d => ∃ f, FilmOk z.1 z.2 f ∧ d = dFilm f)
theorem ok_film (T : Tx K mg) : DefOk P w K mg base 4 "_law_film" spFilm := by
  refine T.d__law_film (spD_len fun _ => rfl) fun X vs H Q E ⟨f, cdv, A, outer, s, e⟩ G ⟨⟨B, m⟩, p, n, vs', ev, r, hp, hn, ⟨hB, hm0, hm4⟩, q⟩ => ?_
  subst e
  obtain ⟨v1, v2, rfl, r1, r2⟩ := r.two
  subst ev
  simp only at hB hm0 hm4
  have E := env_p (N := N__law_film) (Ps' := [rf p, R (dRows B), R (.int m)]) (vs := [.ref p, v1, v2]) (H := H) (.cons rfl (.cons r1 (.cons r2 .nil)))
  have hn' : n + 420 ≤ 1000000 := hn
  refine s_lc 3 G [("_law_turn", 5)] (blkOk_by (N := N__law_film) (sc := defScope s_law_film) (by decide +kernel)) ?_ (sw_true rfl rfl rfl (by decide +kernel))
  refine tLc_at ?_
  refine WI.by (pi_range1 (by rfl) T.n_range (pa_cons pe_W pa_nil)) ?_
  refine (dd_add (dd_er fun _ => er_int) (dd_take (ok_take T) G (by decide) (fun _ => ed_var 0 rfl) (fun _ => er_var 2 rfl) ⟨by omega, by omega⟩) (P := fun d => ∃ i : Int, d = .int i ∧ 1 ≤ i ∧ i ≤ m) (fun d d' e1 ⟨i, e2, h0, h1⟩ => by
    subst e1 e2; exact ⟨_, _, rfl, rfl, _, rfl, by omega, by omega⟩)).run _ _ _ _ E hp (by show n + 1 ≤ 1000000; omega) fun d v H1 ⟨i, ed, hi0, hi1⟩ s1 hp1 rv => ?_
  subst ed; cases rv
  obtain ⟨j, rfl⟩ : ∃ j : Nat, i = j := ⟨i.toNat, by omega⟩
  refine ⟨j, rfl, by omega, by omega, ?_⟩
  have E1 := E.le (hp.le s1)
  refine rl_core (L := List.range j) (enc := fun i : Nat => D.int i) (ρ' := fun i : Nat => [some (rf p), some (R (dRows B)), some (R (.int m)), none, none, some (R (.int i))]) (c := 102) (c1 := 0) (c2 := 102) (fun i out => ∃ f : List (List Dot), f.length = i ∧ (∀ l ∈ f, Lit B l) ∧ out = f.map dLit) (fun _ b => b = true) (fun x d => ∃ l, Lit B l ∧ d = dLit l) [("_law_turn", 5)] E1 hp1 (by show n + 1 + _ ≤ 1000000; rw [List.length_range]; omega)
    (Gd := fun _ => True) (fun _ _ _ => trivial) ?_ (by rw [List.length_range]; omega) (by omega) ?_ ?_ ?_
    ⟨[], rfl, fun _ h => (by cases h), rfl⟩ (fun i x out hx ho hb => by cases hb) (fun i x out d hx ⟨f, hf, hl, e⟩ hb ⟨l, hL, ed⟩ => ⟨f ++ [l], by simp [hf], fun l' h => ?_, by subst e ed; simp⟩) fun out v H2 ⟨f, hf, hl, e⟩ _ sb2 hp2 hv => ?_
  · rw [List.length_range]
    refine Walk.mono walk_range (fun H _ => trivial) fun i Ha v Hb hi g y => ?_
    obtain ⟨rfl, rfl⟩ := y
    refine ⟨Same.refl _, .int i, by simp [hi], fun _ _ => ?_⟩
    show Rep _ (.int i) (.int (0 + i))
    rw [show (0 : Int) + (i : Int) = i by omega]
    exact .int _
  · exact fun s H0 C cl fp x hx => tg_name 5 G.nd
  · exact fun s H0 C cl fp x hx => dts_nil
  · exact fun s H0 C cl fp x hx => dd_call (c' := 0) (ok_lit T) G.bk (fun _ => ed_var 0 rfl) (da_cons (dd_er fun _ => er_var 1 rfl) da_nil) (fun l ⟨d, r, e1, e2, e3⟩ => by subst e1 e2 e3; exact ⟨B, rfl, hB, fun d h => h⟩)
  · rcases (List.mem_append.mp h) with h | h
    · exact hl l' h
    · rw [List.mem_singleton.mp h]; exact hL
  · subst e
    rw [List.length_range] at hf
    obtain ⟨l, us, ev, hl2, ru⟩ := hv
    subst ev
    have hL2 : LstAt H2 l (f.map dLit) := ⟨us, hl2, ru⟩
    have E2 := (E1.le (hp1.le sb2)).set 3 (P := rf l) rfl
    rw [List.length_range] at hp2
    have sb02 := s1.trans sb2
    refine s_mid 4 G (fun v H3 => ∃ i : Int, v = .int i ∧ SameBut p H2 H3 ∧ Pot p (n + 420) H3) ?_ fun v H3 ⟨way, ev, sb3, hp3⟩ => ?_
    · refine (dd_take (ok_take T) G (by decide) (fun _ => ed_var 0 rfl) (fun _ => er_int) ⟨by decide, by decide⟩).run _ _ _ _ E2 hp2 (by show n + 1 + 102 * j + 1 ≤ 1000000; omega) fun d v H3 ⟨i, ed, _, _⟩ s3 hp3 rv => ?_
      subst ed; cases rv
      exact ⟨i, rfl, s3, hp3.mono (by omega)⟩
    · subst ev
      have hlp : l ≠ p := by
        intro z; subst z
        obtain ⟨_, _, _, e, _⟩ := hp2
        rw [e] at hl2; cases hl2
        cases f with
        | nil => simp at hf; omega
        | cons l f => cases ru with | cons r t => cases r
      have hL3 : LstAt H3 l (f.map dLit) := by
        obtain ⟨_, _, _, e, _⟩ := id hp2
        exact hL2.but sb3 e rfl hlp
      have E3 := (E2.le (hp2.le sb3)).set 4 (P := R _) (.int way)
      have sb03 := sb02.trans sb3
      let ρ1 : Rho := [some (rf p), some (R (dRows B)), some (R (.int m)), none, some (R (.int way)), none]
      let M : L2.St → Hp → Prop := fun σ' H' => ∃ (l : Addr) (f : List (List Dot)), FilmOk B m f ∧ LstAt H' l (f.map dLit) ∧ SameBut p H H' ∧ Pot p (n + 420) H' ∧ Env (ρ1.set 3 (some (rf l))) σ' H'
      refine s_ifM M E3 (td_eqI (er_var 4 rfl) er_int) (fun _ H4 s4 E4 => ?_) (fun _ H4 s4 E4 => s_nil ⟨l, f, ⟨by omega, by omega, hl⟩, hL3.same s4, sb03.trans (.of s4), hp3.same s4, E4⟩) fun σ5 H5 ⟨l5, f5, hf5, hL5, sb5, hp5, E5⟩ => ?_
      · obtain ⟨l0, f0, rfl⟩ : ∃ l0 f0, f = l0 :: f0 := by
          cases f with
          | nil => simp at hf; omega
          | cons l0 f0 => exact ⟨_, _, rfl⟩
        have hlen : ((l0 :: f0).map dLit).length = (l0 :: f0).length := List.length_map ..
        refine s_setL 3 G E4 (el_rep (i := ((l0 :: f0).map dLit).length) (ds := cutD ((l0 :: f0).map dLit) none (some 1)) ⟨by omega, by rw [hlen]; omega⟩ (by rw [List.map_cons, cutD_1]; simp) (el_slice (ed_here (hL3.same s4) (ed_var 3 rfl)) od_none (od_some er_int)) (er_lenL T.n_len (ed_here (hL3.same s4) (ed_var 3 rfl)))) fun l6 σ6 H6 s6 hL6 E6 => s_nil ?_
        refine ⟨l6, List.replicate (l0 :: f0).length l0, ⟨by simp, by simp; simp at hf; omega, fun l' h => ?_⟩, ?_, (sb03.trans (.of s4)).trans (.of s6), hp3.same (s4.trans s6), E6⟩
        · rw [List.eq_of_mem_replicate h]; exact hl _ List.mem_cons_self
        · rw [List.map_cons, cutD_1, flatten_rep1] at hL6
          rw [List.map_replicate]
          have : ((dLit l0 :: List.map dLit f0).length : Int).toNat = (l0 :: f0).length := by simp
          rw [this] at hL6
          exact hL6
      · have hlen : (f5.map dLit).length = f5.length := List.length_map ..
        have h51 := hf5.h1
        have h50 := hf5.h0
        let M2 : L2.St → Hp → Prop := fun σ' H' => ∃ (l : Addr) (f : List (List Dot)), FilmOk B m f ∧ LstAt H' l (f.map dLit) ∧ SameBut p H H' ∧ Pot p (n + 420) H' ∧ Env (ρ1.set 3 (some (rf l))) σ' H'
        refine s_ifM M2 E5 (td_and (td_eqI (er_var 4 rfl) er_int) fun _ => td_le (er_mul (.inl ⟨by decide, by decide⟩) er_int (er_lenL T.n_len (ed_here hL5 (ed_var 3 rfl)))) (er_var 2 rfl)) (fun hk H6 s6 E6 => ?_) (fun _ H6 s6 E6 => s_nil ⟨l5, f5, hf5, hL5.same s6, sb5.trans (.of s6), hp5.same s6, E6⟩) fun σ7 H7 ⟨l7, f7, hf7, hL7, sb7, hp7, E7⟩ => ?_
        · rw [Bool.and_eq_true, decide_eq_true_eq, decide_eq_true_eq, hlen] at hk
          refine s_setL 3 G E6 (el_cat (by rw [hlen]; omega) (ed_here (hL5.same s6) (ed_var 3 rfl)) (ed_here (hL5.same s6) (ed_var 3 rfl))) fun l8 σ8 H8 s8 hL8 E8 => s_nil ?_
          refine ⟨l8, f5 ++ f5, ⟨by simp; omega, by simp; omega, fun l' h => ?_⟩, by rw [List.map_append]; exact hL8, (sb5.trans (.of s6)).trans (.of s8), hp5.same (s6.trans s8), E8⟩
          rcases List.mem_append.mp h with h | h <;> exact hf5.lit _ h
        · refine s_ret E7 (er_tupL T.n_tuple (ed_here hL7 (ed_var 3 rfl))) fun v H8 s8 r8 => ?_
          exact q (dFilm f7) v H8 ⟨f7, hf7, rfl⟩ (sb7.trans (.of s8)) (hp7.same s8) r8
end
end K31
namespace K31
open L2 PySem PySem.Spec PyProof.Rows
/-! ### data compared at any depth -/
structure Enc {α : Type} (n : Nat) (enc : α → D) (py : α → PyData) : Prop where
  dp : ∀ {K : PySem.W.Frag} {H : Hp} {x : α} {v : V}, Rep H (enc x) v → Dp K H v (py x)
  lay : ∀ x, (py x).canLay0 = true
  dep : ∀ x, (py x).depth ≤ n
  eq : ∀ x y, PyData.eqv (py x) (py y) = true ↔ x = y
section
variable {α β : Type} {n m : Nat} {enc : α → D} {py : α → PyData} {enc' : β → D} {py' : β → PyData}
theorem Enc.sh (h : Enc n enc py) (hn : n ≤ 64) (x : α) : SeqAt.shaped (py x) = true := by
  unfold SeqAt.shaped
  rw [h.lay x, Bool.true_and, decide_eq_true_eq]
  exact Nat.le_trans (h.dep x) hn
theorem Enc.dps (h : Enc n enc py) {K : PySem.W.Frag} {H : Hp} : ∀ {l : List α} {vs : List V}, RepL H (l.map enc) vs → DpAll K H vs (l.map py)
  | [], _, .nil => .nil
  | _ :: _, _, .cons r t => .cons (h.dp r) (Enc.dps h t)
theorem Enc.lays (h : Enc n enc py) : ∀ l : List α, PyData.canLayAll0 (l.map py) = true
  | [] => rfl
  | x :: l => by show (PyData.canLay0 (py x) && PyData.canLayAll0 (l.map py)) = true; rw [h.lay x, Enc.lays h l]; rfl
theorem Enc.deps (h : Enc n enc py) : ∀ l : List α, PyData.depthAll (l.map py) ≤ n
  | [] => Nat.zero_le _
  | x :: l => by show max (PyData.depth (py x)) (PyData.depthAll (l.map py)) ≤ n; exact Nat.max_le.mpr ⟨h.dep x, Enc.deps h l⟩
theorem Enc.eqs (h : Enc n enc py) : ∀ l m : List α, PyData.eqvAll (l.map py) (m.map py) = true ↔ l = m
  | [], [] => (by simp [PyData.eqvAll])
  | [], _ :: _ => (by simp [PyData.eqvAll])
  | _ :: _, [] => (by simp [PyData.eqvAll])
  | x :: l, y :: m => by
    show (PyData.eqv (py x) (py y) && PyData.eqvAll (l.map py) (m.map py)) = true ↔ _
    rw [Bool.and_eq_true, h.eq x y, Enc.eqs h l m]; simp
theorem Enc.tup (h : Enc n enc py) : Enc (n + 1) (fun l : List α => .tup (l.map enc)) (fun l => .tuple (l.map py)) where
  dp r := by
    cases r with
    | tup h1 r1 => exact .tup (SqT.of h1) (h.dps r1)
  lay l := h.lays l
  dep l := Nat.succ_le_succ (h.deps l)
  eq l m := by show PyData.eqvAll _ _ = true ↔ _; exact h.eqs l m
theorem Enc.pair (h : Enc n enc py) (h' : Enc m enc' py') : Enc (max n m + 1) (fun p : α × β => .tup [enc p.1, enc' p.2]) (fun p => .tuple [py p.1, py' p.2]) where
  dp r := by
    cases r with
    | tup h1 r1 =>
      obtain ⟨v, u, rfl, ra, rb⟩ := r1.two
      exact .tup (SqT.of h1) (.cons (h.dp ra) (.cons (h'.dp rb) .nil))
  lay p := by show (PyData.canLay0 (py p.1) && (PyData.canLay0 (py' p.2) && true)) = true; rw [h.lay, h'.lay]; rfl
  dep p := by
    show max (PyData.depth (py p.1)) (max (PyData.depth (py' p.2)) 0) + 1 ≤ _
    have := h.dep p.1; have := h'.dep p.2; omega
  eq p q := by
    show (PyData.eqv (py p.1) (py q.1) && (PyData.eqv (py' p.2) (py' q.2) && true)) = true ↔ _
    rw [Bool.and_true, Bool.and_eq_true, h.eq, h'.eq, Prod.ext_iff]
theorem enc_int : Enc 0 D.int PyData.int where
  dp r := by cases r; exact .int _
  lay _ := rfl
  dep _ := Nat.le_refl _
  eq x y := by show (x == y) = true ↔ _; simp
/-- an int or None -/
def dOpt : Option Int → D
  | none => .non
  | some i => .int i
def pOpt : Option Int → PyData
  | none => .none
  | some i => .int i
theorem enc_opt : Enc 0 dOpt pOpt where
  dp {K H x v} r := by cases x <;> cases r; exact .non; exact .int _
  lay x := by cases x <;> rfl
  dep x := by cases x <;> exact Nat.le_refl _
  eq x y := by
    cases x <;> cases y <;> simp [pOpt, PyData.eqv]
abbrev Edge := Option Int × Option Int
def dEdge (e : Edge) : D := .tup [dOpt e.1, dOpt e.2]
theorem enc_dot : Enc 1 dDot (fun p => .tuple [.int p.1, .int p.2]) := enc_int.pair enc_int
theorem enc_lit : Enc 2 dLit (fun l => .tuple (l.map fun p => .tuple [.int p.1, .int p.2])) := enc_dot.tup
theorem enc_edge : Enc 1 dEdge (fun e => .tuple [pOpt e.1, pOpt e.2]) := enc_opt.pair enc_opt
end
section
variable {X : Cx} {Hz : Hp} {ρ : Rho} {a b e : Expr} {pos p : Pos} {k n : Nat} {α : Type} {enc : α → D} {py : α → PyData}
theorem bool_iff {b c : Bool} (h : b = true ↔ c = true) : b = c := by cases b <;> cases c <;> simp_all
theorem Enc.any (N : Enc n enc py) (x : α) (l : List α) [Decidable (x ∈ l)] : ((l.map py).any fun z => PyData.eqv z (py x)) = decide (x ∈ l) := by
  refine bool_iff ?_
  rw [List.any_map, List.any_eq_true, decide_eq_true_eq]
  exact ⟨fun ⟨y, hy, e⟩ => (N.eq y x).mp e ▸ hy, fun h => ⟨x, h, (N.eq x x).mpr rfl⟩⟩
/-- x in a tuple of data -/
def rInT (K : PySem.W.Frag) : R2 := fun x y H Q => ∃ d ds, Dp K H x d ∧ Dp K H y (.tuple ds) ∧ SeqAt.shaped d = true ∧ PyData.canLayAll0 ds = true ∧ Q (.bl (ds.any fun z => PyData.eqv z d)) H
def rNotInT (K : PySem.W.Frag) : R2 := fun x y H Q => ∃ d ds, Dp K H x d ∧ Dp K H y (.tuple ds) ∧ SeqAt.shaped d = true ∧ PyData.canLayAll0 ds = true ∧ Q (.bl (!ds.any fun z => PyData.eqv z d)) H
theorem op_inT (hu : X.A.units + 65 < cLine) : OpR X (compareOp .In) (rInT X.K) := by
  intro pins s σ H x y v u Q I rx ry h; obtain ⟨d, ds, hd, he, sd, se, q⟩ := h
  obtain ⟨as, r1⟩ := Dp.reads I d x v hd rx; obtain ⟨bs, r2⟩ := Dp.reads I (.tuple ds) y u he ry
  exact SeqAt.in_tuple_reads r2 r1 se (SeqAt.canLay_of_shaped sd) (room_in_shaped sd hu) ⟨.bl _, H, I, rfl, q⟩
theorem op_notInT (hu : X.A.units + 65 < cLine) : OpR X (compareOp .NotIn) (rNotInT X.K) := by
  intro pins s σ H x y v u Q I rx ry h; obtain ⟨d, ds, hd, he, sd, se, q⟩ := h
  obtain ⟨as, r1⟩ := Dp.reads I d x v hd rx; obtain ⟨bs, r2⟩ := Dp.reads I (.tuple ds) y u he ry
  exact SeqAt.notIn_tuple_reads r2 r1 se (SeqAt.canLay_of_shaped sd) (room_in_shaped sd hu) ⟨.bl _, H, I, rfl, q⟩
theorem td_inE {x : α} {l : List α} [Decidable (x ∈ l)] (N : Enc n enc py) (hn : n ≤ 64) (G : GX X k) (ha : ER X Hz ρ a (enc x)) (hb : ER X Hz ρ b (.tup (l.map enc))) (hm : behindInMarks .In b = false := by rfl) : TD X Hz ρ (.Compare a [.In] [b] pos) (decide (x ∈ l)) :=
  td_opR (op_inT G.hu65) hm ha hb fun x' y H p1 p2 Q q => ⟨_, _, N.dp p1, N.tup.dp p2, N.sh hn _, N.lays l, by rw [N.any]; exact q⟩
theorem td_ninE {x : α} {l : List α} [Decidable (x ∈ l)] (N : Enc n enc py) (hn : n ≤ 64) (G : GX X k) (ha : ER X Hz ρ a (enc x)) (hb : ER X Hz ρ b (.tup (l.map enc))) (hm : behindInMarks .NotIn b = false := by rfl) : TD X Hz ρ (.Compare a [.NotIn] [b] pos) (!decide (x ∈ l)) :=
  td_opR (op_notInT G.hu65) hm ha hb fun x' y H p1 p2 Q q => ⟨_, _, N.dp p1, N.tup.dp p2, N.sh hn _, N.lays l, by rw [N.any]; exact q⟩
theorem er_inE {x : α} {l : List α} [Decidable (x ∈ l)] (N : Enc n enc py) (hn : n ≤ 64) (G : GX X k) (ha : ER X Hz ρ a (enc x)) (hb : ER X Hz ρ b (.tup (l.map enc))) (hm : behindInMarks .In b = false := by rfl) : ER X Hz ρ (.Compare a [.In] [b] pos) (.bl (decide (x ∈ l))) :=
  er_cmpR (op_inT G.hu65) hm ha hb fun x' y H p1 p2 Q q => ⟨_, _, N.dp p1, N.tup.dp p2, N.sh hn _, N.lays l, by rw [N.any]; exact q⟩
theorem er_ninE {x : α} {l : List α} [Decidable (x ∈ l)] (N : Enc n enc py) (hn : n ≤ 64) (G : GX X k) (ha : ER X Hz ρ a (enc x)) (hb : ER X Hz ρ b (.tup (l.map enc))) (hm : behindInMarks .NotIn b = false := by rfl) : ER X Hz ρ (.Compare a [.NotIn] [b] pos) (.bl (!decide (x ∈ l))) :=
  er_cmpR (op_notInT G.hu65) hm ha hb fun x' y H p1 p2 Q q => ⟨_, _, N.dp p1, N.tup.dp p2, N.sh hn _, N.lays l, by rw [N.any]; exact q⟩
theorem Enc.dpL (N : Enc n enc py) {K : PySem.W.Frag} {H : Hp} {l : List α} {v : V} (h : Lst (l.map enc) H v) : Dp K H v (.list (l.map py)) := by
  obtain ⟨a, vs, rfl, h1, r⟩ := h
  exact .lst (SqL.of h1) (N.dps r)
theorem Enc.shL (N : Enc n enc py) (hn : n < 64) (l : List α) : SeqAt.shaped (.list (l.map py)) = true := by
  unfold SeqAt.shaped
  rw [show PyData.canLay0 (.list (l.map py)) = true from N.lays l, Bool.true_and, decide_eq_true_eq]
  show PyData.depthAll (l.map py) + 1 ≤ 64
  have := N.deps l; omega
theorem td_inEL {x : α} {l : List α} [Decidable (x ∈ l)] (N : Enc n enc py) (hn : n < 64) (G : GX X k) (ha : ER X Hz ρ a (enc x)) (hb : ED X Hz ρ b (Lst (l.map enc))) (hm : behindInMarks .In b = false := by rfl) : TD X Hz ρ (.Compare a [.In] [b] pos) (decide (x ∈ l)) :=
  td_op (op_inD G.hu65) hm stb_R ha hb fun x' y H p1 p2 Q q => ⟨_, _, N.dp p1, N.dpL p2, N.sh (by omega) _, N.shL hn l, by rw [N.any]; exact q⟩
theorem td_ninEL {x : α} {l : List α} [Decidable (x ∈ l)] (N : Enc n enc py) (hn : n < 64) (G : GX X k) (ha : ER X Hz ρ a (enc x)) (hb : ED X Hz ρ b (Lst (l.map enc))) (hm : behindInMarks .NotIn b = false := by rfl) : TD X Hz ρ (.Compare a [.NotIn] [b] pos) (!decide (x ∈ l)) :=
  td_op (op_notInD G.hu65) hm stb_R ha hb fun x' y H p1 p2 Q q => ⟨_, _, N.dp p1, N.dpL p2, N.sh (by omega) _, N.shL hn l, by rw [N.any]; exact q⟩
theorem Enc.eqd (N : Enc n enc py) (x y : α) [Decidable (x = y)] : PyData.eqv (py x) (py y) = decide (x = y) := bool_iff (by rw [N.eq, decide_eq_true_eq])
theorem td_eqE {x y : α} [Decidable (x = y)] (N : Enc n enc py) (hn : n ≤ 64) (G : GX X k) (ha : ER X Hz ρ a (enc x)) (hb : ER X Hz ρ b (enc y)) (hm : behindInMarks .Eq b = false := by rfl) : TD X Hz ρ (.Compare a [.Eq] [b] pos) (decide (x = y)) :=
  td_opR (op_eqD G.hu64) hm ha hb fun x' y' H p1 p2 Q q => ⟨_, _, N.dp p1, N.dp p2, N.sh hn _, N.sh hn _, by rw [N.eqd]; exact q⟩
theorem td_neE {x y : α} [Decidable (x = y)] (N : Enc n enc py) (hn : n ≤ 64) (G : GX X k) (ha : ER X Hz ρ a (enc x)) (hb : ER X Hz ρ b (enc y)) (hm : behindInMarks .NotEq b = false := by rfl) : TD X Hz ρ (.Compare a [.NotEq] [b] pos) (!decide (x = y)) :=
  td_opR (op_neD G.hu64) hm ha hb fun x' y' H p1 p2 Q q => ⟨_, _, N.dp p1, N.dp p2, N.sh hn _, N.sh hn _, by rw [N.eqd]; exact q⟩
/-- a list against [] -/
theorem td_eqEL {l m : List α} [Decidable (l = m)] (N : Enc n enc py) (hn : n < 64) (G : GX X k) (ha : ED X Hz ρ a (Lst (l.map enc))) (hb : ED X Hz ρ b (Lst (m.map enc))) (hm : behindInMarks .Eq b = false := by rfl) : TD X Hz ρ (.Compare a [.Eq] [b] pos) (decide (l = m)) :=
  td_op (op_eqD G.hu64) hm stb_Lst ha hb fun x' y' H p1 p2 Q q => ⟨_, _, N.dpL p1, N.dpL p2, N.shL hn l, N.shL hn m, by
    rw [show PyData.eqv (.list (l.map py)) (.list (m.map py)) = decide (l = m) from bool_iff (by show PyData.eqvAll _ _ = true ↔ _; rw [N.eqs, decide_eq_true_eq])]; exact q⟩
theorem td_neEL {l m : List α} [Decidable (l = m)] (N : Enc n enc py) (hn : n < 64) (G : GX X k) (ha : ED X Hz ρ a (Lst (l.map enc))) (hb : ED X Hz ρ b (Lst (m.map enc))) (hm : behindInMarks .NotEq b = false := by rfl) : TD X Hz ρ (.Compare a [.NotEq] [b] pos) (!decide (l = m)) :=
  td_op (op_neD G.hu64) hm stb_Lst ha hb fun x' y' H p1 p2 Q q => ⟨_, _, N.dpL p1, N.dpL p2, N.shL hn l, N.shL hn m, by
    rw [show PyData.eqv (.list (l.map py)) (.list (m.map py)) = decide (l = m) from bool_iff (by show PyData.eqvAll _ _ = true ↔ _; rw [N.eqs, decide_eq_true_eq])]; exact q⟩
/-! ### sorted, dots -/
/-- these items are those of l, in their order -/
theorem RepL.perm {H : Hp} {l : List D} {vs ys : List V} (r : RepL H l vs) (p : ys.Perm vs) : ∃ m : List D, m.Perm l ∧ RepL H m ys := by
  induction p generalizing l with
  | nil => cases r; exact ⟨[], .nil, .nil⟩
  | cons x _ ih =>
    cases r with
    | cons r1 t =>
      obtain ⟨m, h1, h2⟩ := ih t
      exact ⟨_ :: m, .cons _ h1, .cons r1 h2⟩
  | swap x y l =>
    cases r with
    | cons r1 t => cases t with
      | cons r2 t2 => exact ⟨_, .swap _ _ _, .cons r2 (.cons r1 t2)⟩
  | trans _ _ ih1 ih2 =>
    obtain ⟨m, h1, h2⟩ := ih2 r
    obtain ⟨m', h3, h4⟩ := ih1 h2
    exact ⟨m', h3.trans h1, h4⟩
end
end K31
namespace K31
open L2 PySem PySem.Spec PyProof.Rows
/-! ### sorted, dots -/
def dotOf (H : Hp) (v : V) : Int × Int :=
  match v with
  | .ref t => match H t with
    | some (.tup [.int i, .int j]) => (i, j)
    | _ => (0, 0)
  | _ => (0, 0)
theorem dotOf_rep {H : Hp} {p : Dot} {v : V} (r : Rep H (dDot p) v) : ∃ t, v = .ref t ∧ H t = some (.tup [.int p.1, .int p.2]) ∧ dotOf H v = p := by
  cases r with
  | tup h r1 =>
    obtain ⟨v, u, rfl, ra, rb⟩ := r1.two
    cases ra; cases rb
    refine ⟨_, rfl, h, ?_⟩
    show (match H _ with | some (.tup [.int i, .int j]) => (i, j) | _ => (0, 0)) = p
    rw [h]
theorem RepL.dots {H : Hp} : ∀ {l : List Dot} {vs : List V}, RepL H (l.map dDot) vs → vs.map (dotOf H) = l
  | [], _, .nil => rfl
  | p :: l, _, .cons r t => by
    obtain ⟨_, _, _, e⟩ := dotOf_rep r
    rw [List.map_cons, e, RepL.dots t]
theorem RepL.permDots {H : Hp} {l : List Dot} {vs ys : List V} (r : RepL H (l.map dDot) vs) (p : ys.Perm vs) : RepL H ((ys.map (dotOf H)).map dDot) ys ∧ (ys.map (dotOf H)).Perm l := by
  refine ⟨?_, by have := p.map (dotOf H); rw [r.dots] at this; exact this⟩
  have hall : ∀ y ∈ ys, Rep H (dDot (dotOf H y)) y := fun y hy => by
    obtain ⟨i, hi⟩ := List.mem_iff_getElem?.mp (p.mem_iff.mp hy)
    obtain ⟨d, hd, rd⟩ := r.getV hi
    rw [List.getElem?_map] at hd
    cases e : l[i]? with
    | none => rw [e] at hd; cases hd
    | some q =>
      rw [e] at hd; cases hd
      obtain ⟨_, _, _, e2⟩ := dotOf_rep rd
      rw [e2]; exact rd
  clear r p
  induction ys with
  | nil => exact .nil
  | cons y ys ih => exact .cons (hall y List.mem_cons_self) (ih fun z hz => hall z (List.mem_cons_of_mem _ hz))
section
variable {X : Cx} {Hz : Hp} {ρ : Rho} {a b e o : Expr} {es : List Expr} {pos p pp : Pos} {k n c : Nat} {p0 : Addr}
def SortedOf (l m : List Dot) : Prop := m.Perm l ∧ m.Pairwise fun p q => ¬ ltDot q p
theorem ltDot_tri {p q : Dot} (h : ¬ ltDot q p) (hn : p ≠ q) : ltDot p q := by
  unfold ltDot at *
  by_cases h1 : p.1 = q.1
  · by_cases h2 : p.2 = q.2
    · exact absurd (Prod.ext h1 h2) hn
    · omega
  · omega
theorem SortedOf.up {l m : List Dot} (h : SortedOf l m) (hl : l.Nodup) : m.Pairwise ltDot := by
  have hm : m.Nodup := h.1.nodup_iff.mpr hl
  exact (List.Pairwise.and h.2 hm).imp fun ⟨a, b⟩ => ltDot_tri a b
theorem ed_sortDots {l : List Dot} (hm : X.mg "sorted" = none) (h : ED X Hz ρ e (Lst (l.map dDot))) (hg : Gl X "sorted" := by rfl) (hs : starEach [e] X.env = (false, eval e X.env) :: starEach [] X.env := by rfl) (hpl : (backTo pos (starEach [] X.env)).any (·.1) = false := by rfl) :
    ED X Hz ρ (.Call (.Name "sorted" p) [e] [] pos) (fun H v => ∃ m, SortedOf l m ∧ Lst (m.map dDot) H v) :=
  ed_cb cr_sortedPO hm (by decide +kernel) (al_one h hs) (fun vs H r Q q => by
    obtain ⟨v, _, rfl, ⟨a, us, rfl, h1, r1⟩, rfl⟩ := r
    refine ⟨a, us, dotOf H, rfl, SqL.of h1, fun x hx => ?_, fun ys p hs hb hp => ?_⟩
    · obtain ⟨i, hi⟩ := List.mem_iff_getElem?.mp hx
      obtain ⟨d, hd, rd⟩ := r1.getV hi
      rw [List.getElem?_map] at hd
      cases e : l[i]? with
      | none => rw [e] at hd; cases hd
      | some q =>
        rw [e] at hd; cases hd
        obtain ⟨t, rfl, e1, e2⟩ := dotOf_rep rd
        exact ⟨t, rfl, by rw [e2]; exact e1⟩
    · obtain ⟨h2, h3⟩ := r1.permDots hb.perm
      refine q _ _ (same_upd hp) ⟨ys.map (dotOf H), ⟨h3, ?_⟩, p, ys, rfl, upd_same, h2.le (.of (same_upd hp))⟩
      rw [List.pairwise_map]
      refine hs.imp fun {x y} hxy hlt => ?_
      have : ltP (dotOf H) y x = true := SrtO.lexB_iff.mpr hlt
      rw [hxy] at this; cases this) hg (by decide) (by decide) hs hpl
theorem stb_ex {α β : Type} {P : β → Prop} {Q : β → Hp → α → Prop} (h : ∀ b, Stb (Q b)) : Stb (fun H v => ∃ b, P b ∧ Q b H v) := ⟨fun s ⟨b, hb, hq⟩ => ⟨b, hb, (h b).st s hq⟩⟩
/-- tuple(e), e one of some lists -/
theorem ed_tupX {P : List D → Prop} (hm : X.mg "tuple" = none) (h : ED X Hz ρ e (fun H v => ∃ ds, P ds ∧ Lst ds H v)) (hg : Gl X "tuple" := by rfl) (hs : starEach [e] X.env = (false, eval e X.env) :: starEach [] X.env := by rfl) (hpl : (backTo pos (starEach [] X.env)).any (·.1) = false := by rfl) :
    ED X Hz ρ (.Call (.Name "tuple" p) [e] [] pos) (fun H v => ∃ ds, P ds ∧ Rep H (.tup ds) v) :=
  ed_ct call_tuple_of hm (by decide +kernel) (ap_cons (stb_ex fun ds => stb_Lst) h ap_nil hs) (fun vs H r Q q => by
    obtain ⟨v, _, rfl, ⟨ds, hds, l, us, rfl, h1, r1⟩, rfl⟩ := r
    exact ⟨_, _, rfl, .inl ⟨SqL.of h1, fun m hm => q _ _ (same_upd hm) ⟨ds, hds, .tup upd_same (r1.le (.of (same_upd hm)))⟩⟩⟩) hg (by decide) (by decide) hs hpl
theorem el_lstL {ds : List D} (hm : X.mg "list" = none) (h : ED X Hz ρ e (Lst ds)) (hg : Gl X "list" := by rfl) (hs : starEach [e] X.env = (false, eval e X.env) :: starEach [] X.env := by rfl) (hpl : (backTo pos (starEach [] X.env)).any (·.1) = false := by rfl) : ED X Hz ρ (.Call (.Name "list" p) [e] [] pos) (Lst ds) :=
  ed_ct call_list_of hm (by decide +kernel) (al_one h hs) (fun vs H r Q q => by
    obtain ⟨v, _, rfl, ⟨l, us, rfl, h1, r1⟩, rfl⟩ := r
    exact ⟨_, _, rfl, .inl (SqL.of h1), fun m hm => q _ _ (same_upd hm) ⟨m, _, rfl, upd_same, r1.le (.of (same_upd hm))⟩⟩) hg (by decide) (by decide) hs hpl
/-! ### draws -/
variable {σ : L2.St} {H : Hp} {D' : Ends} {rest body : List Stmt}
theorem s_dd (i : Nat) {x : Str} {p' : Pos} {P : D → Prop} (G : GX X k) (E : Env ρ σ H) (hp : Pot p0 n H) (hn : n + c ≤ LIMP) (h : DD X ρ p0 c e P)
    (q : ∀ d σ' H', P d → SameBut p0 H H' → Pot p0 (n + c) H' → Env (ρ.set i (some (R d))) σ' H' → WSs X rest D' σ' H')
    (hi : X.N[i]? = some x := by rfl) (hx : Loc X.env.scope x := by first | exact .inl rfl | exact .inr rfl) (hs : swapsWith e (some (.Name x p')) pos.line X.env = pure false := by rfl)
    (hf : X.fn x = true ∨ X.env.scope.names.lookup x = some .local := by first | exact .inl rfl | exact .inr rfl) : WSs X (.Assign [.Name x p'] e pos :: rest) D' σ H := by
  refine s_mid i G (fun v H' => ∃ d, P d ∧ SameBut p0 H H' ∧ Pot p0 (n + c) H' ∧ Rep H' d v) ?_ (fun v H' ⟨d, hd, sb, hp', r⟩ => ?_) hi hx hs hf
  · exact h.run σ H n _ E hp hn fun d v H' hd sb hp' r => ⟨d, hd, sb, hp', r⟩
  · exact q d _ H' hd sb hp' ((E.le (hp.le sb)).set i (P := R d) r)
theorem s_retD {P : D → Prop} (E : Env ρ σ H) (hp : Pot p0 n H) (hn : n + c ≤ LIMP) (h : DD X ρ p0 c e P) (q : ∀ d v H', P d → SameBut p0 H H' → Pot p0 (n + c) H' → Rep H' d v → D'.rt v H') : WSs X (.Return (some e) pos :: rest) D' σ H :=
  s_cons (.by (ps_ret pe_W) (h.run σ H n _ E hp hn q))
/-- a list, made while drawing -/
structure DL (X : Cx) (ρ : Rho) (p : Addr) (c : Nat) (e : Expr) (Post : List D → Prop) : Prop where
  run : ∀ (σ : L2.St) (H : Hp) (n : Nat) (Q : VK), Env ρ σ H → Pot p n H → n + c ≤ LIMP → (∀ d v H', Post d → SameBut p H H' → Pot p (n + c) H' → Lst d H' v → Q v H') → WE X e σ H Q
theorem dl_ed {ds : List D} (h : ∀ Hz, ED X Hz ρ e (Lst ds)) : DL X ρ p0 0 e (fun d => d = ds) := ⟨fun σ H n Q E hp hn q => (h H).run σ H Q E.en fun v H' s l => q ds v H' rfl (.of s) (hp.same s) l⟩
theorem dl_lst {P : List D → Prop} (h : DA X ρ p0 c es P) (hl : ∀ l, P l → l.length ≤ 1000) : DL X ρ p0 c (.List es pos) P := by
  refine ⟨fun σ H n Q E hp hn q => .by (pe_lst pa_W) ?_⟩
  refine h.run σ H n _ E hp hn fun ds vs H1 hd sb hp1 r => ?_
  refine ⟨by rw [← r.length]; exact Nat.le_of_lt (small1000 (hl ds hd)), fun l hl => ?_⟩
  exact q ds _ _ hd (sb.trans (.of (same_upd hl))) (hp1.same (same_upd hl)) ⟨l, vs, rfl, upd_same, r.le (.of (same_upd hl))⟩
theorem pot_ne_len {l : Addr} {H : Hp} {ds : List D} (hp : Pot p0 n H) (hl : LstAt H l ds) (h3 : ds.length ≠ 3) : l ≠ p0 := by
  intro z; subst z
  obtain ⟨_, _, _, e, _⟩ := hp
  obtain ⟨us, e2, r⟩ := hl
  rw [e] at e2; cases e2
  exact h3 r.length
def D.isTup : D → Bool
  | .tup _ => true
  | _ => false
theorem pot_ne_tup {l : Addr} {H : Hp} {ds : List D} (hp : Pot p0 n H) (hl : LstAt H l ds) (h3 : ∀ d ∈ ds, d.isTup = true) : l ≠ p0 := by
  intro z; subst z
  obtain ⟨_, _, _, e, _⟩ := hp
  obtain ⟨us, e2, r⟩ := hl
  rw [e] at e2; cases e2
  cases r with
  | cons r t => cases r <;> simp [D.isTup] at h3
/-- one of a list's items -/
theorem dd_of {P : List D → Prop} {pe : Expr} (F : DefOk X.prog X.w X.K X.mg X.base 2 "_law_of" spOf) (G : GX X k) (hk : 2 ≤ k) (hρ : ∀ Hz, ED X Hz ρ pe (rf p0).p) (h : DL X ρ p0 c e P) (hne : ∀ ds, P ds → 0 < ds.length ∧ ds.length < 1000000 ∧ (ds.length ≠ 3 ∨ ∀ d ∈ ds, d.isTup = true)) (hg : Gl X "_law_of" := by rfl)
    (hs : starEach [pe, e] X.env = (false, eval pe X.env) :: starEach [e] X.env := by rfl) (hs2 : starEach [e] X.env = (false, eval e X.env) :: starEach [] X.env := by rfl) (hpl : (backTo pos (starEach [e] X.env)).any (·.1) = false := by rfl) :
    DD X ρ p0 (c + 1) (.Call (.Name "_law_of" pp) [pe, e] [] pos) (fun d => ∃ ds, P ds ∧ d ∈ ds) := by
  refine ⟨fun σ H n Q E hp hn q => we_call F (G.mono hk) ?_ hg (by decide) hs hpl⟩
  refine .by (pa_cons pe_W (pa_cons pe_W pa_nil hs2) hs) ?_
  refine (hρ H).run σ H _ E.en fun v H1 s1 ev => ?_
  obtain rfl : v = .ref p0 := ev
  refine h.run σ H1 n _ (E.same s1) (hp.same s1) (by omega) fun ds v H2 hP s2 hp2 ⟨l, us, ev, hl, r⟩ => ?_
  subst ev
  obtain ⟨h0, h1, h2⟩ := hne ds hP
  have hL : LstAt H2 l ds := ⟨us, hl, r⟩
  refine ⟨p0, l, n + c, ds, rfl, hp2, by omega, hL, ?_, h0, h1, fun d v H3 hd s3 hp3 r3 => q d v H3 ⟨ds, hP, hd⟩ (((SameBut.of s1).trans s2).trans s3) hp3 r3⟩
  rcases h2 with h2 | h2
  · exact pot_ne_len hp2 hL h2
  · exact pot_ne_tup hp2 hL h2
end
end K31
namespace K31
open L2 PySem PySem.Spec PyProof.Rows
section
variable {X : Cx} {Hz : Hp} {ρ : Rho} {a b e o : Expr} {es : List Expr} {pos p pp : Pos} {k n c : Nat} {p0 : Addr}
variable {σ : L2.St} {H : Hp} {D' : Ends} {rest body : List Stmt}
/-- x, y = a, b -/
theorem s_par2 (i j : Nat) {x y : Str} {px py p2 p3 : Pos} {n1 n2 : Nat} (G : GX X k) (h : WE X a σ H fun v H1 => WE X b σ H1 fun u H2 => WSs X rest D' ((σ.set i (some v)).set j (some u)) H2)
    (hi : X.N[i]? = some x := by rfl) (hj : X.N[j]? = some y := by rfl) (hne : i ≠ j := by decide) (hx : X.env.scope.names.lookup x = some .local := by rfl) (hy : X.env.scope.names.lookup y = some .local := by rfl)
    (hs : starEach [a, b] X.env = (false, eval a X.env) :: starEach [b] X.env := by rfl) (hs2 : starEach [b] X.env = (false, eval b X.env) :: starEach [] X.env := by rfl)
    (hw : swappedStores [.Tuple [.Name x px, .Name y py] n1 p2] (.Tuple [a, b] n2 p3) X.env = pure (some [x, y]) := by rfl)
    (hq : swapsWithSole [.Tuple [.Name x px, .Name y py] n1 p2] (.Tuple [a, b] n2 p3) pos.line X.env = pure false := by rfl) : WSs X (.Assign [.Tuple [.Name x px, .Name y py] n1 p2] (.Tuple [a, b] n2 p3) pos :: rest) D' σ H := by
  refine s_cons (.by (ps_par G.calm G.nd hi hj hne hx hy pa_W hw hq) ?_)
  refine .by (pa_cons pe_W (pa_cons pe_W pa_nil hs2) hs) ?_
  exact h.mono fun v H1 h1 => h1.mono fun u H2 h2 => ⟨v, u, rfl, h2⟩
theorem erase_map {α β : Type} (f : α → β) : ∀ (l : List α) (j : Nat), (l.map f).eraseIdx j = (l.eraseIdx j).map f
  | [], _ => rfl
  | _ :: _, 0 => rfl
  | x :: l, j + 1 => by show f x :: (l.map f).eraseIdx j = f x :: (l.eraseIdx j).map f; rw [erase_map f l j]
theorem we_take {p1 eu : Expr} {u : Int} {Q : VK} (F : DefOk X.prog X.w X.K X.mg X.base 1 "_law_take" spTake) (G : GX X k) (hk : 1 ≤ k) (E : Env ρ σ H) (hp : Pot p0 n H) (hn : n + 1 ≤ LIMP) (hρ : ∀ Hz, ED X Hz ρ p1 (rf p0).p) (he : ER X H ρ eu (.int u)) (hu : 0 < u ∧ u < 1073741824)
    (q : ∀ (i : Int) H', 0 ≤ i → i < u → SameBut p0 H H' → Pot p0 (n + 1) H' → Q (.int i) H') (hg : Gl X "_law_take" := by rfl)
    (hs : starEach [p1, eu] X.env = (false, eval p1 X.env) :: starEach [eu] X.env := by rfl) (hs2 : starEach [eu] X.env = (false, eval eu X.env) :: starEach [] X.env := by rfl) (hpl : (backTo pos (starEach [eu] X.env)).any (·.1) = false := by rfl) :
    WE X (.Call (.Name "_law_take" pp) [p1, eu] [] pos) σ H Q := by
  refine we_call F (G.mono hk) ?_ hg (by decide) hs hpl
  refine .by (pa_cons pe_W (pa_cons pe_W pa_nil hs2) hs) ?_
  refine (hρ H).run σ H _ E.en fun v H1 s1 ev => ?_
  obtain rfl : v = .ref p0 := ev
  refine he.run σ H1 _ (E.en.same s1) fun v H2 s2 r => ?_
  refine ⟨u, p0, n, [v], rfl, .cons r .nil, hp.same (s1.trans s2), hn, hu, fun d v H3 ⟨i, ed, i0, i1⟩ s3 hp3 rv => ?_⟩
  subst ed; cases rv
  exact q i H3 i0 i1 ((SameBut.of (s1.trans s2)).trans s3) hp3
/-- ys.append(xs.pop(e)), e a drawn number below the length -/
theorem s_popTo {l m : Addr} {ls ms : List Int} {o o2 : Expr} {apos cpos apos2 cpos2 : Pos} (E : Env ρ σ H) (hp : Pot p0 n H) (hn : n + c ≤ LIMP) (hlm : l ≠ m) (hl : LstAt H l (ls.map .int)) (hm : LstAt H m (ms.map .int)) (hlp : l ≠ p0) (hmp : m ≠ p0) (ho : ∀ Hz, ED X Hz ρ o (rf l).p) (ho2 : ∀ Hz, ED X Hz ρ o2 (rf m).p)
    (he : ∀ (H2 : Hp) (Q : VK), Same H H2 → Env ρ σ H2 → (∀ (i : Int) H3, 0 ≤ i → i < ls.length → SameBut p0 H2 H3 → Pot p0 (n + c) H3 → Q (.int i) H3) → WE X e σ H2 Q) (hz : ls.length < 100000) (hz2 : ms.length < 100000)
    (q : ∀ (j : Nat) (x : Int) H', ls[j]? = some x → LstAt H' l ((ls.eraseIdx j).map .int) → LstAt H' m ((ms ++ [x]).map .int) → Pot p0 (n + c) H' → (∀ a o, a ≠ p0 → a ≠ l → a ≠ m → H a = some o → H' a = some o) → Env ρ σ H' → WSs X rest D' σ H')
    (hbase : attributeBase o "pop" X.env (eval o X.env) = eval o X.env := by rfl)
    (hfew : ((backTo cpos (starEach [e] X.env)).all (fun x => !x.1) && (backToKw cpos (keywordEach [] X.env)).all (fun x => x.1.isSome) && decide ([e].length + ([] : List Keyword).length + (if ([] : List Keyword).isEmpty then 0 else 1) < 30)) = true := by rfl)
    (hline : (apos.endLine == cpos.line) = true := by rfl) (hst : starEach [e] X.env = (false, eval e X.env) :: starEach [] X.env := by rfl) (hpl : (backTo cpos (starEach [] X.env)).any (·.1) = false := by rfl)
    (hbase2 : attributeBase o2 "append" X.env (eval o2 X.env) = eval o2 X.env := by rfl)
    (hfew2 : ((backTo cpos2 (starEach [.Call (.Attribute o "pop" apos) [e] [] cpos] X.env)).all (fun x => !x.1) && (backToKw cpos2 (keywordEach [] X.env)).all (fun x => x.1.isSome)
      && decide ([Expr.Call (.Attribute o "pop" apos) [e] [] cpos].length + ([] : List Keyword).length + (if ([] : List Keyword).isEmpty then 0 else 1) < 30)) = true := by rfl)
    (hline2 : (apos2.endLine == cpos2.line) = true := by rfl) (hst2 : starEach [.Call (.Attribute o "pop" apos) [e] [] cpos] X.env = (false, eval (.Call (.Attribute o "pop" apos) [e] [] cpos) X.env) :: starEach [] X.env := by rfl) (hpl2 : (backTo cpos2 (starEach [] X.env)).any (·.1) = false := by rfl)
    (hs : swapsWith (.Call (.Attribute o2 "append" apos2) [.Call (.Attribute o "pop" apos) [e] [] cpos] [] cpos2) none pos.line X.env = pure false := by rfl) :
    WSs X (.Expr (.Call (.Attribute o2 "append" apos2) [.Call (.Attribute o "pop" apos) [e] [] cpos] [] cpos2) pos :: rest) D' σ H := by
  refine s_expr (.by (pe_bm PySem.F.plainAttrs_list PySem.F.slot_list_append PySem.F.type_list_append mt_append pe_W (pa_cons pe_W pa_nil hst2) hbase2 hfew2 hline2 hst2 hpl2) ?_) hs
  refine (ho2 H).run σ H _ E.en fun v H1 s1 ev => ?_
  obtain rfl : v = .ref m := ev
  obtain ⟨us1, g1, t1⟩ := hm.same s1
  refine ⟨Or.inl ⟨rfl, us1, SqL.of g1⟩, ?_⟩
  refine .by (pe_bm PySem.F.plainAttrs_list PySem.F.slot_list_pop PySem.F.type_list_pop mt_popAt pe_W (pa_cons pe_W pa_nil hst) hbase hfew hline hst hpl) ?_
  refine (ho H1).run σ H1 _ (E.same s1).en fun v H2 s2 ev => ?_
  obtain rfl : v = .ref l := ev
  obtain ⟨vs2, h2, r2⟩ := hl.same (s1.trans s2)
  refine ⟨Or.inl ⟨rfl, vs2, SqL.of h2⟩, ?_⟩
  have hp2 := hp.same (s1.trans s2)
  refine he H2 _ (s1.trans s2) (E.same (s1.trans s2)) fun i H3 i0 i1 s3 hp3 => ?_
  have h3 : H3 l = some (.lst vs2) := s3 _ _ hlp h2
  have r3 := r2.le (hp2.le s3)
  obtain ⟨us3, g3, t3⟩ : LstAt H3 m (ms.map .int) := by
    obtain ⟨us, g, t⟩ := hm.same (s1.trans s2)
    exact ⟨us, s3 _ _ hmp g, t.le (hp2.le s3)⟩
  have hv := r3.ints
  subst hv
  obtain ⟨j, rfl⟩ : ∃ j : Nat, i = j := ⟨i.toNat, by omega⟩
  have hj : j < ls.length := by omega
  have hx : ls[j]? = some ls[j] := List.getElem?_eq_getElem hj
  refine ⟨l, _, j, j, .int ls[j], rfl, rfl, h3, by omega, by omega, ?_, by rw [List.getElem?_map, hx]; rfl, ?_⟩
  · have h0 : ¬ ((j : Int) < 0) := by omega
    unfold seqIndex?
    simp only [if_neg h0, List.length_map]
    rw [if_pos (by simp; exact hj)]
    rfl
  · have hu := t3.ints
    subst hu
    have g4 : (upd H3 l (.lst ((ls.map V.int).eraseIdx j))) m = some (.lst (ms.map V.int)) := by rw [upd_ne (Ne.symm hlm)]; exact g3
    refine ⟨m, ms.map V.int, .int ls[j], rfl, rfl, g4, by rw [List.length_map]; exact Nat.lt_of_lt_of_le hz2 (by decide), ?_⟩
    have le3 : Le H3 (upd H3 l (.lst ((ls.map V.int).eraseIdx j))) := Le.upd h3 rfl
    have le4 := Le.upd (o := .lst (ms.map V.int ++ [V.int ls[j]])) g4 rfl
    refine q j ls[j] _ hx ⟨_, by rw [upd_ne hlm]; exact upd_same, ?_⟩ ⟨_, upd_same, ?_⟩ ?_ ?_ (((E.same (s1.trans s2)).le (hp2.le s3)).le (le3.trans le4))
    · rw [erase_map]
      exact RepL.ofInts _
    · rw [show ms.map V.int ++ [V.int ls[j]] = (ms ++ [ls[j]]).map V.int from by simp]
      exact RepL.ofInts _
    · exact (hp3.but .upd hlp.symm).but .upd hmp.symm
    · intro a o n1 n2 n3 ha
      rw [upd_ne n3, upd_ne n2]
      exact s3 _ _ n1 ((s1.trans s2) _ _ ha)
end
section
variable {P : Program} {w : World}
variable {K : PySem.W.Frag} {mg : Str → Option Value} {base : Heap}
def spSome : Sp := fun vs H Q _ => ∃ (p l : Addr) (n : Nat) (L : List Int) (u : Int), vs = [.ref p, .ref l, .int u] ∧ Pot p n H ∧ n + L.length ≤ LIMP ∧ LstAt H l (L.map .int) ∧ L.length ≤ 1000 ∧ 0 ≤ u ∧
  ∀ (M : List Int) l' H', (∀ x ∈ M, x ∈ L) → M.length ≤ L.length → SameBut p H H' → Pot p (n + L.length) H' → LstAt H' l' (M.map .int) → Q (.ref l') H'
theorem ok_some (T : Tx K mg) : DefOk P w K mg base 2 "_law_some" spSome := by
  refine T.d__law_some (fun vs H Q E ⟨p, l, n, L, u, ev, _⟩ => by subst ev; rfl) fun X vs H Q E ⟨f, cdv, A, outer, s, e⟩ G ⟨p, l, n, L, u, ev, hp, hn, hl, hL, hu0, q⟩ => ?_
  subst e ev
  have E := env_p (N := N__law_some) (Ps' := [rf p, rf l, R (.int u)]) (vs := [.ref p, .ref l, .int u]) (H := H) (.cons rfl (.cons rfl (.cons (.int u) .nil)))
  refine s_par2 3 4 G ?_
  refine .by (pe_callTy call_list_of (by rfl) T.n_list (by decide +kernel) (pa_cons pe_W pa_nil)) ?_
  refine (ed_here hl (ed_var 1 rfl)).run _ _ _ E.en fun v H1 s1 ⟨l0, us, ev, h1, r1⟩ => ?_
  subst ev
  refine ⟨l0, us, rfl, .inl (SqL.of h1), fun m hm => ?_⟩
  have sm := same_upd (o := .lst us) hm
  refine .by (pe_lst pa_nil) ⟨Nat.zero_le _, fun f' hf => ?_⟩
  have sf := same_upd (o := .lst []) hf
  have hp1 := hp.same s1
  have hpm : p ≠ m := hp1.ne hm
  have hp2 := hp1.same sm
  have hpf : p ≠ f' := hp2.ne hf
  have hmf : m ≠ f' := by
    intro e; subst e; rw [upd_same] at hf; cases hf
  have s02 := (s1.trans sm).trans sf
  have E1 := (((E.same (s1.trans sm)).set 3 (P := rf m) rfl).same sf).set 4 (P := rf f') rfl
  have hm0 : H m = none := s1.free hm
  have hf0 : H f' = none := (s1.trans sm).free hf
  have hL1 : LstAt (upd (upd H1 m (.lst us)) f' (.lst [])) m (L.map .int) := ⟨us, sf _ _ upd_same, (r1.le (.of sm)).le (.of sf)⟩
  have hlen : (L.map D.int).length = L.length := List.length_map ..
  refine s_forR G .never T.n_range ?_ E1 (er_min2 G.calm T.n_min (er_intI T.n_int (er_var 2 rfl)) (er_lenL T.n_len (ed_here hL1 (ed_var 3 rfl)))) (fun i σ' H' => ∃ (n' : Nat) (L' M : List Int), i + L'.length = L.length ∧ M.length = i ∧ (∀ x ∈ L', x ∈ L) ∧ (∀ x ∈ M, x ∈ L) ∧ SameBut p H H' ∧ Pot p n' H' ∧ n' ≤ n + i ∧ LstAt H' m (L'.map .int) ∧ LstAt H' f' (M.map .int) ∧
    Env [some (rf p), some (rf l), some (R (.int u)), some (rf m), some (rf f'), none] σ' H') ?_ ?_ ?_
  · rw [hlen]; split <;> omega
  · intro H2 s2 E2
    exact ⟨n, L, [], by simp, rfl, fun _ h => h, fun _ h => (by cases h), .of (s02.trans s2), hp.same (s02.trans s2), by omega, hL1.same s2, ⟨[], s2 _ _ upd_same, .nil⟩, E2⟩
  · rintro i σ' H' hi ⟨n', L', M, hil, hM, hL', hM', sb, hp', hn', hLm, hMf, E2⟩
    rw [hlen] at hi
    have hiL : i < L.length := by split at hi <;> omega
    refine g_name 5 G ?_
    have E3 := E2.set 5 (P := R _) (.int (i : Int))
    refine s_popTo (c := 1) E3 hp' (by show n' + 1 ≤ 1000000; have : n + L.length ≤ 1000000 := hn; omega) hmf hLm hMf hpm.symm hpf.symm (fun _ => ed_var 3 rfl) (fun _ => ed_var 4 rfl) ?_ (by omega) (by omega) fun j x H3 hx hL3 hM3 hp3 oth E4 => s_nil ?_
    · intro H4 Q s4 E4 q4
      have hl4 : ((L'.map D.int).length : Int) = L'.length := by simp
      refine we_take (ok_take T) G (by decide) E4 (hp'.same s4) (by show n' + 1 ≤ 1000000; have : n + L.length ≤ 1000000 := hn; omega) (fun _ => ed_var 0 rfl) (er_lenL T.n_len (ed_here (hLm.same s4) (ed_var 3 rfl))) (by rw [hl4]; omega) fun i H5 i0 i1 => q4 i H5 i0 (by rw [← hl4]; exact i1)
    · have hj : j < L'.length := by
        rcases Nat.lt_or_ge j L'.length with h | h
        · exact h
        · rw [List.getElem?_eq_none h] at hx; cases hx
      refine ⟨n' + 1, L'.eraseIdx j, M ++ [x], ?_, by simp [hM], fun y hy => hL' _ (List.mem_of_mem_eraseIdx hy), fun y hy => ?_, ?_, hp3, by omega, hL3, hM3, E4.fg (.k (.k (.k (.k (.k (.d .nil))))))⟩
      · rw [List.length_eraseIdx, if_pos hj]; omega
      · rcases List.mem_append.mp hy with h | h
        · exact hM' _ h
        · rw [List.mem_singleton.mp h]; exact hL' _ (List.mem_of_getElem? hx)
      · intro a o ha hao
        refine oth a o ha ?_ ?_ (sb a o ha hao)
        · intro e; subst e; rw [hm0] at hao; cases hao
        · intro e; subst e; rw [hf0] at hao; cases hao
  · rintro σ' H' ⟨n', L', M, hil, hM, hL', hM', sb, hp', hn', hLm, hMf, E2⟩
    refine s_ret E2 (ed_var 4 rfl) fun v H2 s2 ev => ?_
    obtain rfl : v = .ref f' := ev
    exact q M f' H2 hM' (by omega) (sb.trans (.of s2)) ((hp'.same s2).mono (by omega)) (hMf.same s2)
end
end K31
namespace K31
open L2 PySem PySem.Spec PyProof.Rows
section
variable {X : Cx} {Hz : Hp} {ρ : Rho} {a b e o : Expr} {es : List Expr} {pos p pp : Pos} {k n c : Nat} {p0 : Addr}
/-- x, y = a, b; a slot that a nested block sees -/
theorem s_par2c (i j : Nat) {x y : Str} {px py p2 p3 : Pos} {n1 n2 : Nat} {σ : L2.St} {H : Hp} {D' : Ends} {rest : List Stmt} (G : GX X k) (h : WE X a σ H fun v H1 => WE X b σ H1 fun u H2 => ∀ t, H2 t = none → WSs X rest D' ((σ.set i (some v)).set j (some u)) (upd H2 t (.tup [v, u])))
    (hi : X.N[i]? = some x := by rfl) (hx : Loc X.env.scope x := by first | exact .inl rfl | exact .inr rfl) (hf : X.fn x = true ∨ X.env.scope.names.lookup x = some .local := by first | exact .inl rfl | exact .inr rfl)
    (hj : X.N[j]? = some y := by rfl) (hy : Loc X.env.scope y := by first | exact .inl rfl | exact .inr rfl) (hg : X.fn y = true ∨ X.env.scope.names.lookup y = some .local := by first | exact .inl rfl | exact .inr rfl)
    (hs0 : starEach [a, b] X.env = (false, eval a X.env) :: starEach [b] X.env := by rfl) (hs2 : starEach [b] X.env = (false, eval b X.env) :: starEach [] X.env := by rfl)
    (hs : swapsWithSole [.Tuple [.Name x px, .Name y py] n1 p2] (.Tuple [a, b] n2 p3) pos.line X.env = pure false := by rfl) (hw : swappedStores [.Tuple [.Name x px, .Name y py] n1 p2] (.Tuple [a, b] n2 p3) X.env = pure none := by rfl) : WSs X (.Assign [.Tuple [.Name x px, .Name y py] n1 p2] (.Tuple [a, b] n2 p3) pos :: rest) D' σ H := by
  refine s_cons (.by (ps_asg (pe_tup (pa_cons pe_W (pa_cons pe_W pa_nil hs2) hs0)) pg_W hs hw) ?_)
  refine h.mono fun v H1 h1 => h1.mono fun u H2 h2 => ⟨Nat.le_of_lt (small1000 (by show 2 ≤ 1000; decide)), fun t ht => ?_⟩
  exact fun pins s u' I ru => (pg_tup G.calm (pgs_cons (pg_name G.nd hi hx hf) (pgs_cons (pg_name G.nd hj hy hg) pgs_nil))).run pins s σ _ _ u' _ I ru ⟨_, _, rfl, SqT.of upd_same, rfl, _, _, rfl, _, _, rfl, rfl, h2 t ht⟩
/-- list(range(n)): a new list -/
theorem we_lstR {n : Nat} {p2 pos2 : Pos} {σ : L2.St} {H : Hp} {Q : VK} (G : GX X k) (hm : X.mg "list" = none) (hm2 : X.mg "range" = none) (hn : n ≤ 10000) (E : Env ρ σ H) (h : ER X H ρ a (.int n)) (q : ∀ l H', H l = none → Same H H' → LstAt H' l (((List.range n).map fun i : Nat => (i : Int)).map D.int) → Q (.ref l) H') (hg : Gl X "list" := by rfl) (hg2 : Gl X "range" := by rfl)
    (na : starEach [a] X.env = (false, eval a X.env) :: starEach [] X.env := by rfl) (nb : starEach [Expr.Call (.Name "range" p2) [a] [] pos2] X.env = (false, eval (Expr.Call (.Name "range" p2) [a] [] pos2) X.env) :: starEach [] X.env := by rfl) :
    WE X (.Call (.Name "list" p) [.Call (.Name "range" p2) [a] [] pos2] [] pos) σ H Q := by
  refine .by (pe_listRg G.calm hg hm (prg_1 hg2 hm2 pe_W na) nb) ?_
  refine h.run σ H _ E.en fun v H1 s1 r => ?_
  cases r
  refine ⟨n, rfl, .of_le (Int.le_refl 0) (by omega) (by decide) (by omega), fun l hl => q _ _ (s1.free hl) (s1.trans (same_upd hl)) ⟨_, upd_same, ?_⟩⟩
  have : rgV 0 (n : Int) = ((List.range n).map fun i : Nat => (i : Int)).map V.int := by
    unfold rgV
    rw [List.map_map, show ((n : Int) - 0).toNat = n by omega]
    refine List.map_congr_left fun i _ => ?_; show V.int (0 + (i : Int)) = V.int (i : Int)
    rw [Int.zero_add]
  rw [this]
  exact RepL.ofInts _
end
theorem LstAt.draw {p l : Addr} {n : Nat} {H H' : Hp} {ds : List D} (h : LstAt H l ds) (hp : Pot p n H) (s : SameBut p H H') (hlp : l ≠ p) : LstAt H' l ds := by
  obtain ⟨_, _, _, e, _⟩ := hp
  exact h.but s e rfl hlp
def metBy (dd : List Int × List Int) (d : Dot) : Bool := decide (d.1 ∈ dd.1) || decide (d.2 ∈ dd.2)
def leftOf (l : List Dot) (dd : List Int × List Int) : List Dot := l.filter fun d => !metBy dd d
section
variable {P : Program} {w : World}
variable {K : PySem.W.Frag} {mg : Str → Option Value} {base : Heap}
def spDead : Sp := spD 21 (fun z : List (List Bool) × Nat => [dRows z.1, .int z.2]) (fun z => GoodB z.1 ∧ z.2 ≤ 100) (fun z d => ∃ x y, d = dDead (x, y) ∧ x.length ≤ 20 ∧ y.length ≤ 20)
theorem ok_dead (T : Tx K mg) : DefOk P w K mg base 3 "_law_dead" spDead := by
  refine T.d__law_dead (spD_len fun _ => rfl) fun X vs H Q E ⟨f, cdv, A, outer, s, e⟩ G ⟨⟨B, u⟩, p, n, vs', ev, r, hp, hn, ⟨hB, hu⟩, q⟩ => ?_
  subst e
  obtain ⟨v1, v2, rfl, r1, r2⟩ := r.two
  subst ev
  simp only at hB hu
  have E := env_p (N := N__law_dead) (Ps' := [rf p, R (dRows B), R (.int u)]) (vs := [.ref p, v1, v2]) (H := H) (.cons rfl (.cons r1 (.cons r2 .nil)))
  have hn' : n + 21 ≤ 1000000 := hn
  obtain ⟨w', hw0, hw1, hw, _⟩ := hB.w
  have hB1 := hB.h1
  obtain ⟨r0, B', rfl⟩ : ∃ r0 B', B = r0 :: B' := by
    cases B with
    | nil => exact absurd hB.h0 (by decide)
    | cons r0 B' => exact ⟨_, _, rfl⟩
  have mrow : (mkRow r0).length = r0.length := mkRow_len r0
  have hr0 : r0.length = w' := hw _ List.mem_cons_self
  have dlen : ((r0 :: B').map fun r => D.str (mkRow r)).length = (r0 :: B').length := List.length_map ..
  refine s_par2c 3 4 G ?_
  refine (er_lenT T.n_len (er_var 1 rfl)).run _ _ _ E.en fun v H1 s1 rv => ?_
  cases rv
  rw [dlen]
  refine we_call (ok_some T) (G.mono (by decide)) ?_
  refine .by (pa_cons pe_W (pa_cons pe_W (pa_cons pe_W pa_nil))) ?_
  have E1 := E.same s1
  refine (ed_var 0 (P := rf p) rfl).run _ _ _ E1.en fun v H2 s2 ev => ?_
  obtain rfl : v = .ref p := ev
  have E2 := E1.same s2
  have hsum : (((r0 :: B').length : Nat) : Int) + ((mkRow r0).length : Nat) = (((r0 :: B').length + r0.length : Nat) : Int) := by rw [mrow]; omega
  refine we_lstR (n := (r0 :: B').length + r0.length) G T.n_list T.n_range (by omega) E2 (.is (er_add (er_lenT T.n_len (er_var 1 rfl)) (er_lenS T.n_len (by rw [mrow]; exact Nat.le_trans (by omega : r0.length ≤ 10) (by decide)) (er_ixt (er_var 1 rfl) er_int (atI_nat (j := 0) rfl)))) (by rw [dlen, hsum])) fun l H3 hl0 s3 hL3 => ?_
  have hp3 := hp.same ((s1.trans s2).trans s3)
  have hlp : l ≠ p := ((hp.same (s1.trans s2)).ne hl0).symm
  refine we_take (ok_take T) G (by decide) (E2.same s3) hp3 (by show n + 1 ≤ 1000000; omega) (fun _ => ed_var 0 rfl) (er_add (er_var 2 rfl) er_int) ⟨by omega, by omega⟩ fun i H4 i0 i1 s4 hp4 => ?_
  have hL4 := hL3.draw hp3 s4 hlp
  refine ⟨p, l, n + 1, _, i, rfl, hp4, by simp only [List.length_map, List.length_range]; show _ ≤ 1000000; omega, hL4, by simp only [List.length_map, List.length_range]; omega, i0, fun M l' H5 hM hMl s5 hp5 hL5 t ht => ?_⟩
  simp only [List.length_map, List.length_range] at hMl hp5
  have s03 := (s1.trans s2).trans s3
  have st := same_upd (o := .tup [.int ((r0 :: B').length : Nat), .ref l']) ht
  have hL6 := hL5.same st
  have E5 := ((((E.le (.of s03)).le (hp3.le s4)).le (hp4.le s5)).set 3 (P := R (.int ((r0 :: B').length : Nat))) (.int _)).set 4 (P := rf l') rfl |>.same st
  refine s_set 5 (ρ := [some (rf p), some (R (dRows (r0 :: B'))), some (R (.int u)), some (R (.int ((r0 :: B').length : Nat))), some (rf l'), none, none]) G E5 (er_tupL T.n_tuple (el_sorted T.n_sorted (l := M.filter fun x => decide (x < ((r0 :: B').length : Nat))) (ed_lc (L := M) (enc := D.int) (fun x => decide (x < ((r0 :: B').length : Nat))) D.int G [("_law_wire", 6)] (src_lst (ed_here hL6 (ed_var 4 rfl))) (blkOk_by (N := N__law_dead) (sc := defScope s_law_dead) (by decide +kernel)) (by omega) (fun s H0 C cl fp x hx => tg_name 6 G.nd)
    (fun s H0 C cl fp x hx => ts_one (td_lt (er_var 6 rfl) (er_var 3 rfl))) fun s H0 C cl fp x hx _ => er_var 6 rfl))) fun σ6 H6 s6 E6 => ?_
  refine s_ret E6 (er_t2 (er_var 5 rfl) (er_tupL T.n_tuple (el_sorted T.n_sorted (l := (M.filter fun x : Int => decide ((((r0 :: B').length : Nat) : Int) ≤ x)).map fun x : Int => x - ((r0 :: B').length : Nat)) (.imp (ed_lc (L := M) (enc := D.int) (fun x : Int => decide ((((r0 :: B').length : Nat) : Int) ≤ x)) (fun x => D.int (x - ((r0 :: B').length : Nat))) G [("_law_wire", 6)] (src_lst (ed_here (hL6.same s6) (ed_var 4 rfl))) (blkOk_by (N := N__law_dead) (sc := defScope s_law_dead) (by decide +kernel)) (by omega) (fun s H0 C cl fp x hx => tg_name 6 G.nd)
    (fun s H0 C cl fp x hx => ts_one (td_ge (er_var 6 rfl) (er_var 3 rfl))) fun s H0 C cl fp x hx _ => er_sub (er_var 6 rfl) (er_var 3 rfl)) fun H v h => by rw [List.map_map]; exact h)))) fun v H7 s7 r7 => ?_
  have hcut : ∀ g : Int → Bool, (M.filter g).length ≤ 20 := fun g => Nat.le_trans (List.length_filter_le _ _) (by omega)
  refine q (dDead (_, _)) v H7 ⟨_, _, rfl, ?_, ?_⟩ (((((SameBut.of s03).trans s4).trans s5).trans (.of st)).trans (.of (s6.trans s7))) ((hp5.same ((st.trans s6).trans s7)).mono (by omega)) r7
  · exact Nat.le_trans (Nat.le_of_eq (srt_perm _).length_eq) (hcut _)
  · exact Nat.le_trans (Nat.le_of_eq ((srt_perm _).length_eq.trans (List.length_map ..))) (hcut _)
theorem ok_is_met (T : Tx K mg) : DefOk P w K mg base 1 "_law_is_met" (spF (fun z : (List Int × List Int) × Dot => [dDead z.1, dDot z.2]) (fun _ => True) fun z => .bl (metBy z.1 z.2)) := by
  refine T.d__law_is_met (spF_len fun _ => rfl) fun X vs H Q E ⟨f, cdv, A, outer, s, e⟩ G ⟨⟨dd, d⟩, r, _, q⟩ => ?_
  subst e
  have E := env_r (N := N__law_is_met) r
  refine s_ret E ?_ fun v H' s r => q v H' s r
  exact er_or (er_inI (er_ixt (er_var 1 rfl) er_int rfl) (er_ixt (er_var 0 rfl) er_int rfl)) fun _ => er_inI (er_ixt (er_var 1 rfl) er_int rfl) (er_ixt (er_var 0 rfl) er_int rfl)
theorem ok_left (T : Tx K mg) : DefOk P w K mg base 2 "_law_left" (spF (fun z : List Dot × (List Int × List Int) => [dLit z.1, dDead z.2]) (fun z => z.1.length ≤ 1000) fun z => dLit (leftOf z.1 z.2)) := by
  refine T.d__law_left (spF_len fun _ => rfl) fun X vs H Q E ⟨f, cdv, A, outer, s, e⟩ G ⟨⟨l, dd⟩, r, hl, q⟩ => ?_
  subst e
  have hl : l.length ≤ 1000 := hl
  have E := env_r (N := N__law_left) r
  refine s_ret E (er_tupL T.n_tuple (ed_lc (L := l) (enc := dDot) (fun d => !metBy dd d) dDot G [("_law_dot", 2)] (src_tup (er_var 0 rfl)) (blkOk_by (N := N__law_left) (sc := defScope s_law_left) (by decide +kernel)) (by omega) (fun s H0 C cl fp x hx => tg_name 2 G.nd)
    (fun s H0 C cl fp x hx => ts_one (td_not (td_val (er_call (ok_is_met T) (G.bk.mono (by decide)) (dd, x) trivial (ad_cons (er_var 1 rfl) (ad_one (er_var 2 rfl))))))) fun s H0 C cl fp x hx _ => er_var 2 rfl)) fun v H' s r => q v H' s r
end
end K31
namespace K31
open L2 PySem PySem.Spec PyProof.Rows
section
variable {P : Program} {w : World} {A : Around} {E : Value → Shared → Prop} {z : Shared}
abbrev bare0 (w : World) : Obj := { cls := .type "set", dict := none, data := .set #[] 0 (.fresh 0 0 (!w.params.followText "set-order")) }
abbrev with0 (w : World) (h : Heap) : Heap := h.push (bare0 w)
/-- set(l), l a list of ints: what its loop leaves -/
theorem set_of_listI {l : Addr} {us : Array Value} (ns : List Int) {Q : Value → Shared → Prop} (hh : A.handled = none) (hl : z.heap.IsList l us) (hi : IntsAre us.toList ns) (hb : ns.length + 1 < scanBound)
    (q : ∀ (h' : Heap) (tk c : Nat), SetR w h' z.heap.objs.size (fun j => decide (j ∈ ns)) c → c ≤ ns.length → (∀ b o, z.heap.get? b = some o → h'.get? b = some o) → Q (.ref z.heap.objs.size) { z with heap := h', toks := tk }) :
    wpAny (model P w) A (call (.type "set") [.ref l]) Q E z := by
  have hus : us.size = ns.length := by rw [← Array.length_toList]; exact IntsAre.length hi
  obtain ⟨_, _, hmro⟩ := F.called_set.mro
  have ⟨hmade, hsub⟩ := And.intro F.called_set.made F.called_set.sub
  have ⟨n1, n2⟩ := And.intro F.called_set.notType F.called_set.canCreate
  have n3 := F.typeCall_set_1 (.ref l)
  refine wpAny_call (codeAny_of_tree (show wpAny _ _ (callAny (.type "set") _) _ _ _ from wpAny_pure ⟨Code.quiet_builtin _ (by decide +kernel), codeAny_builtin F.entry_type_call ?_⟩))
  rw [Around.under_plain (weight_type_call_type "set" [.ref l] []) rfl]; repeat (any_goals (first | assumption | wp_step))
  refine codeAny_mono (code_set_led1 (.ref l) (E := E) (Q₁ := fun v y => v = .ref z.heap.objs.size ∧ y = { z with heap := with0 w z.heap }) ⟨rfl, rfl⟩) fun r y hr => ?_
  cases r with
  | error e => exact hr
  | ok fl =>
    cases fl with
    | ret v =>
      obtain ⟨rfl, rfl⟩ := hr
      have g0 : (with0 w z.heap).get? z.heap.objs.size = some (bare0 w) := Heap.get?_push_size _ rfl
      have hT : Shared.TypeIs { z with heap := with0 w z.heap } (.ref z.heap.objs.size) "set" := ⟨_, g0, rfl⟩
      have ⟨i1, i2⟩ := And.intro F.called_set.init.lookup (F.called_set.init.bind (.ref z.heap.objs.size))
      (repeat (any_goals (first | assumption | wp_step)))
      refine codeAny_mono (codeAny_call_builtin (R := wants (fun v y => v = .none ∧ ∃ h' tk c, y = { z with heap := h', toks := tk } ∧ SetR w h' z.heap.objs.size (fun j => decide (j ∈ ns)) c ∧ c ≤ ns.length ∧ (∀ b o, z.heap.get? b = some o → h'.get? b = some o)) E)
        F.called_set.init.plain F.entry_set_init (check_set_init_1 hT ?_)) fun r2 y2 hr2 => ?_
      · obtain ⟨⟨oc, od, oda, osl⟩, ho, hc, nl, hd⟩ := hl
        simp only at hc hd
        subst hc hd
        have hlz := Heap.lt_size ho
        have L1 : (with0 w z.heap).IsList l us := ⟨_, Heap.get?_push_of_some _ ho, rfl, nl, rfl⟩
        have ⟨s1, s2⟩ := And.intro F.sub_list_set F.sub_list_frozenset
        have ho' : (with0 w z.heap).get? l = some { cls := .type "list", dict := od, data := .seq us nl, slots := osl } := Heap.get?_push_of_some _ ho
        have nd : (Value.type "list" == Value.type "dict") = false := by decide
        unfold Builtin.«set.__init__» noKeywords Builtin.Frozenset.updateFrom; generalize hI : pyIter = PI
        wp_walk
        subst hI
        refine wpAny_pyIter_list L1 (wpAny_bind (wpAny_runValue ?_))
        have sz : (with0 w z.heap).objs.size = z.heap.objs.size + 1 := Heap.size_push ..
        refine set_update_ints ((Walks.list (by simp [hh]) _ l (by rw [sz]; exact Nat.ne_of_lt (Nat.lt_succ_of_lt hlz)) us).toS) z.heap.objs.size (by rw [sz]; simp; exact Nat.ne_of_gt hlz) ns hus hb (fun i v hv => ?_) (us.size - 0) 0 _ (by omega) (Nat.zero_le _) ⟨⟨_, Heap.get?_push_size _ rfl, rfl, rfl⟩, (L1.push _)⟩ ?_ ?_
        · have hin : i < ns.length := by rw [← hus]; exact (Array.getElem?_eq_some_iff.mp hv).1
          obtain ⟨t, e⟩ := PyProof.Rows.IntsAre.int_at hi i v (by rw [Array.getElem?_toList]; exact hv)
          refine ⟨ns[i], t, List.getElem?_eq_getElem hin, ?_⟩
          rw [e, List.getD_eq_getElem?_getD, List.getElem?_eq_getElem hin] <;> rfl
        · exact ⟨0, Nat.le_refl 0, setR_new_at (Heap.get?_push_of_some _ g0)⟩
        · intro ⟨h', g', d', tk', os'⟩ c hm hc2 R2
          obtain rfl : g' = z.gens := hm.gens
          obtain rfl : d' = z.drawn := hm.drawn
          obtain rfl : os' = z.os := hm.os
          rw [hus] at hc2
          show wpAny _ _ _ _ _ _
          refine wpAny_pure (show wpAny _ _ (ret Value.none) _ _ _ from wpAny_pure ⟨rfl, h', tk', c, rfl, R2, hc2, fun b o e => ?_⟩)
          have hbz := Heap.lt_size e
          exact hm.heap b o (by rw [sz]; simp; exact ⟨Nat.ne_of_lt hbz, Nat.ne_of_lt (Nat.lt_succ_of_lt hbz)⟩) (Heap.get?_push_of_some _ (Heap.get?_push_of_some _ e))
      · cases r2 with
        | error e => exact hr2
        | ok f2 =>
          cases f2 with
          | ret v2 =>
            obtain ⟨rfl, h', tk, c, rfl, R2, hc2, k2⟩ := hr2
            (repeat (any_goals (first | assumption | wp_step)))
            exact q _ _ _ R2 hc2 k2
          | _ => exact hr2.elim
    | _ => exact hr.elim
end
end K31
namespace K31
open L2 PySem PySem.Spec PyProof.Rows
/-- each once -/
def ded : List Int → List Int
  | [] => []
  | x :: l => if x ∈ l then ded l else x :: ded l
theorem ded_mem : ∀ {l : List Int} {x : Int}, x ∈ ded l ↔ x ∈ l
  | [], _ => Iff.rfl
  | y :: l, x => by
    unfold ded
    split
    · rw [ded_mem, List.mem_cons]
      exact ⟨.inr, fun h => h.elim (fun e => by rw [e]; assumption) id⟩
    · rw [List.mem_cons, List.mem_cons, ded_mem]
theorem ded_nd : ∀ l : List Int, (ded l).Nodup
  | [] => List.nodup_nil
  | y :: l => by
    unfold ded
    split
    · exact ded_nd l
    · exact List.nodup_cons.mpr ⟨fun h => absurd (ded_mem.mp h) (by assumption), ded_nd l⟩
section
variable {X : Cx} {Hz : Hp} {ρ : Rho} {a b e o : Expr} {es : List Expr} {pos p pp pos2 : Pos} {k n c : Nat} {p0 : Addr}
theorem setR_count {w : World} {h : Heap} {a : Addr} {ns : List Int} {c : Nat} (R : SetR w h a (fun j => decide (j ∈ ns)) c) : c = (ded ns).length := by
  obtain ⟨o, es, ep, t, _, _, _, _, nd, mem, _, _, sz, _⟩ := R
  have p : (es.toList.map keyOf).Perm (ded ns) := (List.perm_ext_iff_of_nodup nd (ded_nd ns)).mpr fun k => by rw [← mem k, decide_eq_true_eq, ded_mem]
  have := p.length_eq
  rw [List.length_map, Array.length_toList] at this
  omega
/-- set(xs), xs a list of ints -/
def rSetL (K : PySem.W.Frag) (w : World) : List V → Hp → VK → Prop := fun xs H Q => ∃ (l : Addr) (ns : List Int), xs = [V.ref l] ∧ SqL K H l (ns.map V.int) ∧ ns.length < 4000 ∧
  ∀ a c, H a = none → c = (ded ns).length → Q (.ref a) (upd H a (SetO w a (fun j => decide (j ∈ ns)) c))
theorem cr_setL (hc : X.calm = true) : CallR X (.type "set") (rSetL X.K X.w) := by
  intro pins s σ H xs us Q I r h; obtain ⟨l, ns, rfl, hl, hf, q⟩ := h
  rw [Vals.ref1 r]
  obtain ⟨its, rv, pl, hz⟩ := I.list hl; have hn : H s.heap.objs.size = none := I.hok.fresh (Nat.le_refl _)
  refine set_of_listI ns (I.ok.hd hc) pl.isList (by simpa using intsAre_of rv) (Nat.lt_of_le_of_lt (Nat.succ_le_of_lt hf) (by decide)) fun h' tk c R hcn kp => ?_
  exact ⟨.ref _, upd H s.heap.objs.size (SetO X.w s.heap.objs.size (fun j => decide (j ∈ ns)) c), I.laid (t' := tk) kp (Nat.le_refl _) (setO_new R), rfl, q _ c hn (setR_count R)⟩
theorem ded_len : ∀ l : List Int, (ded l).length ≤ l.length
  | [] => Nat.le_refl _
  | x :: l => by
    have := ded_len l
    unfold ded
    split
    · rw [List.length_cons]; omega
    · rw [List.length_cons, List.length_cons]; omega
def dedS (l : List Int) : List Int := srt (ded l)
theorem dedS_up (l : List Int) : (dedS l).Pairwise (· < ·) := by
  have h1 : (dedS l).Nodup := (srt_perm _).nodup_iff.mpr (ded_nd l)
  exact ((srt_up (ded l)).and h1).imp fun ⟨x, y⟩ => by omega
theorem dedS_mem {l : List Int} {x : Int} : x ∈ dedS l ↔ x ∈ l := by
  unfold dedS
  rw [(srt_perm _).mem_iff, ded_mem]
theorem up_eq : ∀ {l m : List Int}, l.Pairwise (· < ·) → m.Pairwise (· < ·) → (∀ x, x ∈ l ↔ x ∈ m) → l = m := fun {l m} hl hm h =>
  perm_up_eq ((List.perm_ext_iff_of_nodup (hl.imp fun h e => by omega) (hm.imp fun h e => by omega)).mpr h) (hl.imp fun h => by omega) (hm.imp fun h => by omega)
/-- sorted(set(xs)), fewer than 64 -/
theorem el_srtSet {l : List Int} (hc : X.calm = true) (hm : X.mg "sorted" = none) (hm2 : X.mg "set" = none) (hl : (ded l).length < 64) (hl2 : l.length < 4000) (h : ED X Hz ρ e (Lst (l.map D.int))) (hg : Gl X "sorted" := by rfl) (hg2 : Gl X "set" := by rfl) (hs : starEach [e] X.env = (false, eval e X.env) :: starEach [] X.env := by rfl)
    (hs2 : starEach [Expr.Call (.Name "set" pp) [e] [] pos2] X.env = (false, eval (Expr.Call (.Name "set" pp) [e] [] pos2) X.env) :: starEach [] X.env := by rfl) (hpl : (backTo pos (starEach [] X.env)).any (·.1) = false := by rfl) (hpl2 : (backTo pos2 (starEach [] X.env)).any (·.1) = false := by rfl) :
    ED X Hz ρ (.Call (.Name "sorted" p) [.Call (.Name "set" pp) [e] [] pos2] [] pos) (Lst ((dedS l).map D.int)) := by
  refine ed_cb (PA' := fun H vs => ∃ a c, vs = [V.ref a] ∧ H a = some (SetO X.w a (fun j => decide (j ∈ l)) c) ∧ c = (ded l).length) (cr_sortedSet hc) hm (by decide +kernel) ?_ (fun vs H ⟨a, c, ev, ha, hcl⟩ Q q => ⟨a, _, c, ev, ha, by omega, fun ns p hu hmem hlen hp => ?_⟩) hg (by decide) (by decide) hs2 hpl
  · have := ed_ct (x := "set") (p := pp) (pos := pos2) (P := fun H v => ∃ a c, v = V.ref a ∧ H a = some (SetO X.w a (fun j => decide (j ∈ l)) c) ∧ c = (ded l).length) (cr_setL hc) hm2 (by decide +kernel) (al_one h hs) (fun vs H r Q q => by
      obtain ⟨v, _, rfl, ⟨m, us, rfl, h1, r1⟩, rfl⟩ := r
      have := r1.ints
      subst this
      exact ⟨m, l, rfl, SqL.of h1, hl2, fun a c ha hcl => q _ _ (same_upd ha) ⟨a, c, rfl, upd_same, hcl⟩⟩) hg2 (by decide) (by decide) hs hpl2
    refine ⟨fun σ H Q E q => .by (pa_cons pe_W pa_nil hs2) ?_⟩
    exact this.run σ H _ E fun v H' s ⟨a, c, ev, ha, hcl⟩ => q _ _ s ⟨a, c, by rw [ev], ha, hcl⟩
  · refine q _ _ (same_upd hp) ⟨p, _, rfl, upd_same, ?_⟩
    rw [show dedS l = ns from up_eq (dedS_up l) hu fun x => by rw [dedS_mem, hmem x, decide_eq_true_eq]]
    exact RepL.ofInts _
end
end K31
namespace K31
open L2 PySem PySem.Spec PyProof.Rows
/-! ### slices of mapped lists -/
def cutG {α : Type} (l : List α) (lo hi : Option Int) : List α := (l.drop (HT.sIx l.length 0 lo)).take (HT.sIx l.length l.length hi - HT.sIx l.length 0 lo)
theorem cutD_map {α : Type} (f : α → D) (l : List α) (lo hi : Option Int) : cutD (l.map f) lo hi = (cutG l lo hi).map f := by
  unfold cutD cutG
  rw [List.length_map, List.map_take, List.map_drop]
theorem cutG_to {α : Type} (l : List α) (n : Nat) : cutG l none (some (n : Int)) = l.take n := by
  unfold cutG
  rw [HT.sIx_none, HT.sIx_nat, List.drop_zero, Nat.sub_zero]
  rcases Nat.le_total n l.length with h | h
  · rw [Nat.min_eq_left h]
  · rw [Nat.min_eq_right h, List.take_of_length_le (Nat.le_refl _), List.take_of_length_le h]
theorem cutG_from {α : Type} (l : List α) (n : Nat) : cutG l (some (n : Int)) none = l.drop n := by
  unfold cutG
  rw [HT.sIx_none, HT.sIx_nat]
  rcases Nat.le_total n l.length with h | h
  · rw [Nat.min_eq_left h]
    exact List.take_of_length_le (by rw [List.length_drop]; exact Nat.le_refl _)
  · rw [Nat.min_eq_right h, List.drop_of_length_le (Nat.le_refl _), List.drop_of_length_le h]; simp
theorem filter_tt {α : Type} (l : List α) : l.filter (fun _ => true) = l := List.filter_eq_self.mpr fun _ _ => rfl
def litAt (f : List (List Dot)) (t : Int) : List Dot := f.getD (t % f.length).toNat []
theorem atI_lit {f : List (List Dot)} {t : Int} (h : 0 < f.length) : atI (f.map dLit) (t % f.length) = some (dLit (litAt f t)) := by
  have h1 : 0 ≤ t % (f.length : Int) := Int.emod_nonneg _ (by omega)
  have h2 : t % (f.length : Int) < f.length := Int.emod_lt_of_pos _ (by omega)
  obtain ⟨j, hj⟩ : ∃ j : Nat, t % (f.length : Int) = j := ⟨(t % (f.length : Int)).toNat, by omega⟩
  rw [hj] at h2 ⊢
  have hjl : j < f.length := by omega
  refine atI_nat ?_
  rw [List.getElem?_map, List.getElem?_eq_getElem hjl]
  unfold litAt
  rw [hj, Int.toNat_natCast, List.getD_eq_getElem?_getD, List.getElem?_eq_getElem hjl]
  rfl
theorem litAt_mem {f : List (List Dot)} (t : Int) (h : 0 < f.length) : litAt f t ∈ f := by
  have h1 : 0 ≤ t % (f.length : Int) := Int.emod_nonneg _ (by omega)
  have h2 : t % (f.length : Int) < f.length := Int.emod_lt_of_pos _ (by omega)
  unfold litAt
  rw [List.getD_eq_getElem?_getD, List.getElem?_eq_getElem (by omega)]
  exact List.getElem_mem _
abbrev Wire := Str × Int
abbrev sRow : Str := "row"
abbrev sCol : Str := "column"
def dWire (x : Wire) : D := .tup [.str x.1, .int x.2]
def wiresOf (d : List Int × List Int) : List Wire := d.2.map (fun i => (sCol, i)) ++ d.1.map (fun i => (sRow, i))
def deadOf (ws : List Wire) : List Int × List Int := (dedS ((ws.filter fun x => decide (x.1 = sRow)).map (·.2)), dedS ((ws.filter fun x => decide (x.1 = sCol)).map (·.2)))
section
variable {X : Cx} {Hz : Hp} {ρ : Rho} {a b e o : Expr} {es : List Expr} {pos p pp pos2 : Pos} {k n c : Nat} {p0 : Addr}
theorem dd_if {k : Bool} {P : D → Prop} {t : Expr} (hc : ∀ Hz, TD X Hz ρ t k) (ha : k = true → DD X ρ p0 c a P) (hb : k = false → DD X ρ p0 c b P) : DD X ρ p0 c (.IfExp t a b pos) P := by
  refine ⟨fun σ H n Q E hp hn q => .by (pe_ifExp pt_W pe_W pe_W) ?_⟩
  refine (hc H).run σ H _ E.en fun H1 s1 => ?_
  cases k with
  | true => exact iteT ((ha rfl).run σ H1 n _ (E.same s1) (hp.same s1) hn fun d v H2 hd s2 hp2 r => q d v H2 hd ((SameBut.of s1).trans s2) hp2 r)
  | false => exact iteF ((hb rfl).run σ H1 n _ (E.same s1) (hp.same s1) hn fun d v H2 hd s2 hp2 r => q d v H2 hd ((SameBut.of s1).trans s2) hp2 r)
end
section
variable {P : Program} {w : World}
variable {K : PySem.W.Frag} {mg : Str → Option Value} {base : Heap}
theorem ok_wires_of (T : Tx K mg) : DefOk P w K mg base 1 "_law_wires_of" (spL (fun d : List Int × List Int => [dDead d]) (fun d => d.1.length ≤ 20 ∧ d.2.length ≤ 20) fun d => (wiresOf d).map dWire) := by
  refine T.d__law_wires_of (spL_len fun _ => rfl) fun X vs H Q E ⟨f, cdv, A, outer, s, e⟩ G ⟨d, r, ⟨h1, h2⟩, q⟩ => ?_
  subst e
  have E := env_r (N := N__law_wires_of) r
  refine s_ret E (.imp (el_cat (by simp only [List.length_map]; exact Nat.le_trans (Nat.add_le_add (List.length_filter_le _ _) (List.length_filter_le _ _)) (by omega)) (ed_lc (L := d.2) (enc := D.int) (fun _ => true) (fun i => dWire (sCol, i)) G [("_law_at", 1)] (src_tup (er_ixt (er_var 0 rfl) er_int rfl)) (blkOk_by (N := N__law_wires_of) (sc := defScope s_law_wires_of) (by decide +kernel)) (by omega) (fun s H0 C cl fp x hx => tg_name 1 G.nd)
    (fun s H0 C cl fp x hx => ts_nil) fun s H0 C cl fp x hx _ => er_t2 er_str (er_var 1 rfl)) (ed_lc (L := d.1) (enc := D.int) (fun _ => true) (fun i => dWire (sRow, i)) G [("_law_at", 1)] (src_tup (er_ixt (er_var 0 rfl) er_int rfl)) (blkOk_by (N := N__law_wires_of) (sc := defScope s_law_wires_of) (by decide +kernel)) (by omega) (fun s H0 C cl fp x hx => tg_name 1 G.nd)
    (fun s H0 C cl fp x hx => ts_nil) fun s H0 C cl fp x hx _ => er_t2 er_str (er_var 1 rfl))) fun H v h => ?_) fun v H' s r => q v H' s r
  unfold wiresOf
  rw [filter_tt, filter_tt] at h
  simpa [Function.comp_def] using h
def spDeadOf : Sp := fun vs H Q _ => ∃ (l : Addr) (ws : List Wire), vs = [.ref l] ∧ LstAt H l (ws.map dWire) ∧ ws.length < 64 ∧ ∀ v H', Same H H' → Rep H' (dDead (deadOf ws)) v → Q v H'
theorem ok_dead_of (T : Tx K mg) : DefOk P w K mg base 1 "_law_dead_of" spDeadOf := by
  refine T.d__law_dead_of (fun vs H Q E ⟨l, ws, ev, _⟩ => by subst ev; rfl) fun X vs H Q E ⟨f, cdv, A, outer, s, e⟩ G ⟨l, ws, ev, hl, hz, q⟩ => ?_
  subst e ev
  have E := env_p (N := N__law_dead_of) (Ps' := [rf l]) (vs := [.ref l]) (H := H) (.cons rfl .nil)
  refine s_par2 1 2 G ?_
  refine (ed_lc (L := ws) (enc := dWire) (fun x => decide (x.1 = sRow)) (fun x => .int x.2) G [("_law_word", 3), ("_law_at", 4)] (src_lst (ed_here hl (ed_var 0 rfl))) (blkOk_by (N := N__law_dead_of) (sc := defScope s_law_dead_of) (by decide +kernel)) (by omega) (fun s H0 C cl fp x hx => tg_tup2 3 4 G.nd G.calm)
    (fun s H0 C cl fp x hx => ts_one (td_eqS (er_var 3 rfl) er_str)) fun s H0 C cl fp x hx _ => er_var 4 rfl).run _ _ _ E.en fun v1 H1 s1 ⟨l1, us1, ev1, h1, r1⟩ => ?_
  subst ev1
  refine (ed_lc (L := ws) (enc := dWire) (fun x => decide (x.1 = sCol)) (fun x => .int x.2) G [("_law_word", 3), ("_law_at", 4)] (src_lst (ed_here (hl.same s1) (ed_var 0 rfl))) (blkOk_by (N := N__law_dead_of) (sc := defScope s_law_dead_of) (by decide +kernel)) (by omega) (fun s H0 C cl fp x hx => tg_tup2 3 4 G.nd G.calm)
    (fun s H0 C cl fp x hx => ts_one (td_eqS (er_var 3 rfl) er_str)) fun s H0 C cl fp x hx _ => er_var 4 rfl).run _ _ _ (E.same s1).en fun v2 H2 s2 ⟨l2, us2, ev2, h2, r2⟩ => ?_
  subst ev2
  have E2 := ((E.same (s1.trans s2)).set 1 (P := rf l1) rfl).set 2 (P := rf l2) rfl
  have L1 : LstAt H2 l1 (((ws.filter fun x => decide (x.1 = sRow)).map (·.2)).map D.int) := by rw [List.map_map]; exact (show LstAt H1 l1 _ from ⟨us1, h1, r1⟩).same s2
  have L2' : LstAt H2 l2 (((ws.filter fun x => decide (x.1 = sCol)).map (·.2)).map D.int) := by rw [List.map_map]; exact ⟨us2, h2, r2⟩
  have hcut : ∀ g : Wire → Bool, ((ws.filter g).map (·.2)).length < 64 := fun g => by rw [List.length_map]; exact Nat.lt_of_le_of_lt (List.length_filter_le _ _) hz
  have hcut2 : ∀ g : Wire → Bool, (ded ((ws.filter g).map (·.2))).length < 64 := fun g => Nat.lt_of_le_of_lt (ded_len _) (hcut g)
  refine s_ret E2 (er_t2 (er_tupL T.n_tuple (el_srtSet G.calm T.n_sorted T.n_set (hcut2 _) (Nat.lt_trans (hcut _) (by decide)) (ed_here L1 (ed_var 1 rfl)))) (er_tupL T.n_tuple (el_srtSet G.calm T.n_sorted T.n_set (hcut2 _) (Nat.lt_trans (hcut _) (by decide)) (ed_here L2' (ed_var 2 rfl))))) fun v H3 s3 r3 => ?_
  exact q v H3 ((s1.trans s2).trans s3) r3
theorem ok_lit_at (T : Tx K mg) : DefOk P w K mg base 1 "_law_lit_at" (spF (fun z : List (List Dot) × Int => [dFilm z.1, .int z.2]) (fun z => 0 < z.1.length) fun z => dLit (litAt z.1 z.2)) := by
  refine T.d__law_lit_at (spF_len fun _ => rfl) fun X vs H Q E ⟨f, cdv, A, outer, s, e⟩ G ⟨⟨fl, t⟩, r, h0, q⟩ => ?_
  subst e
  have h0 : 0 < fl.length := h0
  have E := env_r (N := N__law_lit_at) r
  refine s_ret E ?_ fun v H' s r => q v H' s r
  exact er_ixt (er_var 0 rfl) (er_mod (by omega) (er_intI T.n_int (er_var 1 rfl)) (.is (er_lenT T.n_len (er_var 0 rfl)) (by rw [List.length_map]))) (atI_lit h0)
theorem ok_shown (T : Tx K mg) : DefOk P w K mg base 3 "_law_shown" (spF (fun z : List (List Dot) × List Int × (List Int × List Int) => [dFilm z.1, dInts z.2.1, dDead z.2.2]) (fun z => 0 < z.1.length ∧ (∀ l ∈ z.1, l.length ≤ 1000) ∧ z.2.1.length ≤ 1000) fun z => dSeen (z.2.1.map fun t => (t, leftOf (litAt z.1 t) z.2.2))) := by
  refine T.d__law_shown (spF_len fun _ => rfl) fun X vs H Q E ⟨f, cdv, A, outer, s, e⟩ G ⟨⟨fl, ts, dd⟩, r, ⟨h0, h1, h2⟩, q⟩ => ?_
  subst e
  have h0 : 0 < fl.length := h0
  have h1 : ∀ l ∈ fl, l.length ≤ 1000 := h1
  have h2 : ts.length ≤ 1000 := h2
  have E := env_r (N := N__law_shown) r
  refine s_ret E (ER.is (er_tupL T.n_tuple (ed_lc (L := ts) (enc := D.int) (fun _ => true) (fun t => dLook (t, leftOf (litAt fl t) dd)) G [("_law_tick", 3)] (src_tup (er_var 1 rfl)) (blkOk_by (N := N__law_shown) (sc := defScope s_law_shown) (by decide +kernel)) (by omega) (fun s H0 C cl fp x hx => tg_name 3 G.nd)
    (fun s H0 C cl fp x hx => ts_nil) fun s H0 C cl fp x hx _ => er_t2 (er_var 3 rfl) (er_call (ok_left T) (G.bk.mono (by decide)) (litAt fl x, dd) (h1 _ (litAt_mem x h0)) (ad_cons (er_ixt (er_var 0 rfl) (er_mod (by omega) (er_intI T.n_int (er_var 3 rfl)) (.is (er_lenT T.n_len (er_var 0 rfl)) (by rw [List.length_map]))) (atI_lit h0)) (ad_one (er_var 2 rfl)))))) ?_) fun v H' s r => q v H' s r
  unfold dSeen
  rw [filter_tt]; dsimp only; rw [List.map_map]; rfl
end
end K31
namespace K31
open L2 PySem PySem.Spec PyProof.Rows
def upLooks (l : List Int) : Prop := l.Pairwise (· < ·) ∧ ∀ x ∈ l, 0 ≤ x ∧ x < 2 ^ 40
section
variable {X : Cx} {Hz : Hp} {ρ : Rho} {a b e o : Expr} {es : List Expr} {pos p pp pos2 : Pos} {k n c c' : Nat} {p0 : Addr}
theorem DL.to {P P' : List D → Prop} (h : DL X ρ p0 c e P) (hc : c ≤ c') (i : ∀ ds, P ds → P' ds) : DL X ρ p0 c' e P' :=
  ⟨fun σ H n Q E hp hn q => h.run σ H n Q E hp (by omega) fun d v H' hd sb hp' r => q d v H' (i d hd) sb (hp'.mono (by omega)) r⟩
theorem DD.to {P P' : D → Prop} (h : DD X ρ p0 c e P) (hc : c ≤ c') (i : ∀ d, P d → P' d) : DD X ρ p0 c' e P' :=
  ⟨fun σ H n Q E hp hn q => h.run σ H n Q E hp (by omega) fun d v H' hd sb hp' r => q d v H' (i d hd) sb (hp'.mono (by omega)) r⟩
theorem s_forRD {σ : L2.St} {H : Hp} {D' : Ends} {rest body : List Stmt} {tg : Expr} {lo hi : Int} {pos' : Pos} (G : GX X k) (hpa : PassesOwn (model X.prog X.w) X.A X.env X.xe) (hm : X.mg "range" = none) (h0 : 0 ≤ lo) (h1 : hi < 100000) (E : Env ρ σ H) (hp : Pot p0 n H) (hn : n + c ≤ LIMP) (h : DD X ρ p0 c a fun d => ∃ i : Int, d = .int i ∧ lo ≤ i ∧ i ≤ hi)
    (q : ∀ (m : Nat) H1, lo ≤ m → m ≤ hi → SameBut p0 H H1 → Pot p0 (n + c) H1 → Env ρ σ H1 → ∃ J : Nat → L2.St → Hp → Prop, J 0 σ H1 ∧
      (∀ (i : Nat) σ' H', i < m → J i σ' H' → WG X tg (.int i) σ' H' fun σ2 H2 => WSs X body { D' with nx := J (i + 1), ct := J (i + 1), bk := fun σ' H' => WSs X rest D' σ' H' } σ2 H2) ∧ (∀ σ' H', J m σ' H' → WSs X rest D' σ' H'))
    (hg : Gl X "range" := by rfl) (hst : starEach [a] X.env = [(false, eval a X.env)] := by rfl) (hs : ∀ x, foldedSetIterable (.Call (.Name "range" p) [a] [] pos) X.env x = pure x := by intro _; rfl) : WSs X (.For tg (.Call (.Name "range" p) [a] [] pos) body [] pos' :: rest) D' σ H := by
  refine s_cons (.by (ps_for hpa G.calm (pi_range1 hg hm (pa_cons pe_W pa_nil hst) hst) pg_W pss_W hs) ?_)
  refine h.run σ H n _ E hp hn fun d v H1 ⟨i, ed, i0, i1⟩ sb hp1 r => ?_
  subst ed; cases r
  obtain ⟨m, rfl⟩ : ∃ m : Nat, i = m := ⟨i.toNat, by omega⟩
  obtain ⟨J, j0, js, jd⟩ := q m H1 i0 i1 sb hp1 (E.le (hp.le sb))
  refine ⟨m, rfl, by omega, by omega, for_range J j0 (fun i σ' H' hi j => ?_) fun σ' H' j => jd σ' H' (by rw [Int.toNat_natCast] at j; exact j)⟩
  have := js i σ' H' (by omega) j
  rw [show (0 : Int) + (i : Int) = i by omega]
  exact this
theorem DA.to {P P' : List D → Prop} (h : DA X ρ p0 c es P) (hc : c ≤ c') (i : ∀ d, P d → P' d) : DA X ρ p0 c' es P' :=
  ⟨fun σ H n Q E hp hn q => h.run σ H n Q E hp (by omega) fun d v H' hd sb hp' r => q d v H' (i d hd) sb (hp'.mono (by omega)) r⟩
end
section
variable {P : Program} {w : World}
variable {K : PySem.W.Frag} {mg : Str → Option Value} {base : Heap}
def spFar : Sp := spD 100 (fun m : Nat => [.int m]) (fun m => 0 < m ∧ m ≤ 12) (fun m d => ∃ l : List Int, d = dInts l ∧ 0 < l.length ∧ l.length ≤ m ∧ upLooks l)
theorem ok_far_looks (T : Tx K mg) : DefOk P w K mg base 3 "_law_far_looks" spFar := by
  refine T.d__law_far_looks (spD_len fun _ => rfl) fun X vs H Q E ⟨f, cdv, A, outer, s, e⟩ G ⟨m, p, n, vs', ev, r, hp, hn, ⟨hm0, hm12⟩, q⟩ => ?_
  subst e
  obtain ⟨v1, rfl, r1⟩ := r.one
  subst ev
  have E := env_p (N := N__law_far_looks) (Ps' := [rf p, R (.int m)]) (vs := [.ref p, v1]) (H := H) (.cons rfl (.cons r1 .nil))
  have hn' : n + 100 ≤ 1000000 := hn
  refine s_par2 2 3 G ?_
  refine .by (pe_lst pa_nil) ⟨Nat.zero_le _, fun l hl => ?_⟩
  have sl := same_upd (o := .lst []) hl
  have hpl : p ≠ l := hp.ne hl
  have hp0 := hp.same sl
  refine (dd_of (c := 1) (P := fun ds => ∃ i : Int, 0 ≤ i ∧ i < 12 ∧ ds = [.int 0, .int 0, .int 0, .int 1, .int 2, .int i, .int 999999900]) (ok_of T) G (by decide) (fun _ => ed_var 0 rfl)
    ((dl_lst (da_cons (dd_er fun _ => er_int) (da_cons (dd_er fun _ => er_int) (da_cons (dd_er fun _ => er_int) (da_cons (dd_er fun _ => er_int) (da_cons (dd_er fun _ => er_int) (da_cons (dd_take (ok_take T) G (by decide) (fun _ => ed_var 0 rfl) (fun _ => er_int) ⟨by decide, by decide⟩) (da_cons (dd_er fun _ => er_int) da_nil))))))) (fun l ⟨_, _, e1, e2, _, _, e3, e4, _, _, e5, e6, _, _, e7, e8, _, _, e9, e10, _, _, e11, e12, _, _, e13, e14, e15⟩ => by subst e1 e3 e5 e7 e9 e11 e13 e15; simp)).to (by decide)
      fun l ⟨_, _, e1, e2, _, _, e3, e4, _, _, e5, e6, _, _, e7, e8, _, _, e9, e10, _, _, e11, ⟨i, e12, i0, i1⟩, _, _, e13, e14, e15⟩ => ⟨i, i0, i1, by subst e2 e4 e6 e8 e10 e12 e14 e15 e13 e11 e9 e7 e5 e3 e1; rfl⟩)
    (fun ds ⟨i, i0, i1, e⟩ => by subst e; exact ⟨by simp, by simp, .inl (by simp)⟩)).run _ _ n _ (E.same sl) hp0 (by show n + (1 + 1) ≤ 1000000; omega) fun d v H2 ⟨ds, ⟨i, i0, i1, e⟩, hd⟩ s2 hp2 rv => ?_
  obtain ⟨t, rfl, t0, t1⟩ : ∃ t : Int, d = .int t ∧ 0 ≤ t ∧ t < 1000000000 := by
    subst e
    simp only [List.mem_cons, List.not_mem_nil, or_false] at hd
    rcases hd with e | e | e | e | e | e | e <;> subst e <;> exact ⟨_, rfl, by omega, by omega⟩
  cases rv
  have hl0 : H l = none := hl
  have hL2 : LstAt H2 l (([] : List Int).map .int) := (show LstAt (upd H l (.lst [])) l [] from ⟨[], upd_same, .nil⟩).draw hp0 s2 hpl.symm
  have sb2 : SameBut p H H2 := (SameBut.of sl).trans s2
  have E2 := ((E.le (.of sl)).le (hp0.le s2)).set 2 (P := rf l) rfl |>.set 3 (P := R (.int t)) (.int t)
  refine s_forRD (lo := 1) (hi := m) G .never T.n_range (by decide) (by omega) E2 hp2 (by show n + (1 + 1) + 1 ≤ 1000000; omega) (dd_add (dd_er fun _ => er_int) (dd_take (ok_take T) G (by decide) (fun _ => ed_var 0 rfl) (fun _ => er_var 1 rfl) ⟨by omega, by omega⟩) (fun d d' e1 ⟨i, e2, h0, h1⟩ => by
    subst e1 e2; exact ⟨_, _, rfl, rfl, _, rfl, by omega, by omega⟩)) fun tm H3 htm0 htm1 sb3 hp3 E3 => ?_
  have hL3 := hL2.draw hp2 sb3 hpl.symm
  refine ⟨fun i σ' H' => ∃ (n' : Nat) (ls : List Int) (t : Int), ls.length = i ∧ ls.Pairwise (· < ·) ∧ (∀ x ∈ ls, 0 ≤ x ∧ x < t) ∧ 0 ≤ t ∧ t < 1000000000 + 100 * i ∧ SameBut p H H' ∧ Pot p n' H' ∧ n' ≤ n + 3 + i ∧ LstAt H' l (ls.map .int) ∧
    Env [some (rf p), some (R (.int m)), some (rf l), some (R (.int t)), none] σ' H', ?_, ?_, ?_⟩
  · exact ⟨n + 3, [], t, rfl, .nil, fun _ h => (by cases h), t0, by omega, sb2.trans sb3, hp3, by omega, hL3, E3⟩
  · rintro i σ' H' hi ⟨n', ls, t, hls, hup, hlt, ht0, ht1, sb, hp', hn', hL, E4⟩
    refine g_name 4 G ?_
    have E5 := E4.set 4 (P := R _) (.int (i : Int))
    refine s_append E5 hL (ed_var 2 rfl) (er_var 3 rfl) (by rw [List.length_map]; omega) fun H5 s5 hL5 E6 => ?_
    have hp5 := hp'.but s5 hpl
    refine s_dd 3 (c := 1) (n := n') (P := fun d => ∃ i : Int, d = .int (t + i) ∧ 1 ≤ i ∧ i ≤ 5) G E6 hp5 (by show n' + 1 ≤ 1000000; omega) ?_ fun d σ7 H7 ⟨j, ed, j0, j1⟩ sb7 hp7 E7 => s_nil ?_
    · refine (dd_add (P1 := fun d => d = .int t) (P2 := fun d => ∃ i : Int, d = .int i ∧ 1 ≤ i ∧ i ≤ 5) (dd_er fun _ => er_var 3 rfl) ((dd_of (c := 0) (P := fun ds => ds = [.int 1, .int 1, .int 1, .int 2, .int 3, .int 5]) (ok_of T) G (by decide) (fun _ => ed_var 0 rfl) (dl_ed fun _ => ed_lst (ad_cons er_int (ad_cons er_int (ad_cons er_int (ad_cons er_int (ad_cons er_int (ad_one er_int))))))) ?_).to (Nat.le_refl _) ?_) ?_).to (by decide) fun _ h => h
      · intro ds e; subst e; exact ⟨by simp, by simp, .inl (by simp)⟩
      · rintro d ⟨ds, e, hd⟩
        subst e
        simp only [List.mem_cons, List.not_mem_nil, or_false] at hd
        rcases hd with e | e | e | e | e | e <;> subst e <;> exact ⟨_, rfl, by decide, by decide⟩
      · intro d d' e1 ⟨i, e2, i0, i1⟩
        exact ⟨t, i, e1, e2, i, rfl, i0, i1⟩
    · subst ed
      have hL5' : LstAt H5 l ((ls ++ [t]).map .int) := by rw [List.map_append]; exact hL5
      have sb5 : SameBut p H H5 := s5.through sb hl0
      refine ⟨n' + 1, ls ++ [t], t + j, by simp [hls], ?_, ?_, by omega, by omega, sb5.trans sb7, hp7, by omega, hL5'.draw hp5 sb7 hpl.symm, E7.fg (.k (.k (.k (.k (.d .nil)))))⟩
      · rw [List.pairwise_append]
        exact ⟨hup, List.pairwise_singleton _ _, fun a ha b hb => by rw [List.mem_singleton.mp hb]; exact (hlt a ha).2⟩
      · intro x hx
        rcases List.mem_append.mp hx with h | h
        · have := hlt x h; omega
        · rw [List.mem_singleton.mp h]; omega
  · rintro σ' H' ⟨n', ls, t, hls, hup, hlt, ht0, ht1, sb, hp', hn', hL, E4⟩
    refine s_ret E4 (er_tupL T.n_tuple (ed_here hL (ed_var 2 rfl))) fun v H8 s8 r8 => ?_
    exact q _ v H8 ⟨ls, rfl, by omega, by omega, hup, fun x hx => by have := hlt x hx; exact ⟨this.1, by omega⟩⟩ (sb.trans (.of s8)) ((hp'.same s8).mono (by omega)) r8
end
end K31
namespace K31
open L2 PySem PySem.Spec PyProof.Rows
section
variable {X : Cx} {Hz : Hp} {ρ : Rho} {a b e o tg it : Expr} {es : List Expr} {pos p pp pos2 : Pos} {k n c c' : Nat} {p0 : Addr}
/-- a list of tuples that the expression makes -/
theorem srcP_M {ds : List D} {m : Nat} (h : ED X Hz ρ it (Lst ds)) (hp : Pot p0 m Hz) (ht : ∀ d ∈ ds, d.isTup = true) : SrcP X Hz ρ p0 tg it ds := by
  refine ⟨fun σ H R E q => .by (pi_list pe_W) ?_⟩
  refine h.run σ H _ E fun v H1 s1 ev => ?_
  obtain ⟨l, vs, rfl, h1, r1⟩ := ev
  have hlp : l ≠ p0 := pot_ne_tup (hp.same (E.s0.trans s1)) ⟨vs, h1, r1⟩ ht
  refine ⟨_, rfl, ⟨_, SqL.of h1⟩, q _ H1 (fun H => H l = some (.lst vs)) s1 (fun Hb sb _ => sb _ _ hlp h1) ?_⟩
  rw [r1.length]
  refine Walk.mono walk_list (fun H g => SqL.of g) fun i Ha v Hb hi g y => ?_
  obtain ⟨rfl, hx⟩ := y
  obtain ⟨d, hd, rd⟩ := r1.getV hx
  exact ⟨Same.refl _, d, hd, fun _ l => rd.le l⟩
theorem dd_tup {x1 : Nat} {P : List D → Prop} (h : DA X ρ p0 c es P) (hl : ∀ l, P l → l.length ≤ 1000) : DD X ρ p0 c (.Tuple es x1 pos) (fun d => ∃ l, P l ∧ d = .tup l) := by
  refine ⟨fun σ H n Q E hp hn q => .by (pe_tup pa_W) ?_⟩
  refine h.run σ H n _ E hp hn fun ds vs H1 hd sb hp1 r => ⟨by rw [← r.length]; exact Nat.le_of_lt (small1000 (hl ds hd)), fun t ht => ?_⟩
  exact q _ _ _ ⟨ds, hd, rfl⟩ (sb.trans (.of (same_upd ht))) (hp1.same (same_upd ht)) (.tup upd_same (r.le (.of (same_upd ht))))
end
def shownOf (f : List (List Dot)) (ts : List Int) (dd : List Int × List Int) : List (Int × List Dot) := ts.map fun t => (t, leftOf (litAt f t) dd)
theorem left_lit {B : List (List Bool)} {l : List Dot} (h : Lit B l) (dd : List Int × List Int) : Lit B (leftOf l dd) := h.sub List.filter_sublist
theorem seen_ok {B : List (List Bool)} {s : List (Int × List Dot)} {ts : List Int} (hs : s.map Prod.fst = ts) (h0 : 0 < ts.length) (h1 : ts.length ≤ 12) (hu : upLooks ts) (hl : ∀ x ∈ s, Lit B x.2) : SeenOk B s where
  h0 := by rw [← List.length_map (f := Prod.fst), hs]; exact h0
  h1 := by rw [← List.length_map (f := Prod.fst), hs]; exact h1
  up := by rw [hs]; exact hu.1
  pos := fun x hx => hu.2 _ (by rw [← hs]; exact List.mem_map_of_mem hx)
  lit := hl
theorem shown_ok {B : List (List Bool)} {m : Nat} {f : List (List Dot)} {ts : List Int} (hf : FilmOk B m f) (h0 : 0 < ts.length) (h1 : ts.length ≤ 12) (hu : upLooks ts) (dd : List Int × List Int) : SeenOk B (shownOf f ts dd) :=
  seen_ok (by unfold shownOf; rw [List.map_map]; exact List.map_id _) h0 h1 hu fun x hx => by
    obtain ⟨t, _, rfl⟩ := List.mem_map.mp hx; exact left_lit (hf.lit _ (litAt_mem t hf.h0)) dd
abbrev Boards := List (List Bool)
abbrev Films := List (List Dot)
abbrev Seen := List (Int × List Dot)
abbrev Deads := List Int × List Int
section
variable {P : Program} {w : World}
variable {K : PySem.W.Frag} {mg : Str → Option Value} {base : Heap}
structure SwdPre (z : Boards × Films × List Int × Deads) : Prop where
  g : GoodB z.1
  f : FilmOk z.1 8 z.2.1
  t0 : 0 < z.2.2.1.length
  t1 : z.2.2.1.length ≤ 12
  u : upLooks z.2.2.1
  d0 : z.2.2.2.1.length ≤ 20
  d1 : z.2.2.2.2.length ≤ 20
def dBeg (x : Wire × Int) : D := .tup [dWire x.1, .int x.2]
def spSwd : Sp := spD 40 (fun z : Boards × Films × List Int × Deads => [dFilm z.2.1, dInts z.2.2.1, dDead z.2.2.2]) SwdPre (fun z d => ∃ s, d = dSeen s ∧ SeenOk z.1 s)
theorem ok_swd (T : Tx K mg) : DefOk P w K mg base 3 "_law_seen_while_dying" spSwd := by
  refine T.d__law_seen_while_dying (spD_len fun _ => rfl) fun X vs H Q E ⟨f, cdv, A, outer, s, e⟩ G ⟨⟨B, fl, ts, dd⟩, p, n, vs', ev, r, hp, hn, pre, q⟩ => ?_
  subst e
  obtain ⟨hB, hf, ht0, ht1, hu, hd0, hd1⟩ := pre
  simp only at hB hf ht0 ht1 hu hd0 hd1
  have hf0 := hf.h0
  have hlit : ∀ t, (litAt fl t).length ≤ 1000 := fun t => Nat.le_trans ((hf.lit _ (litAt_mem t hf0)).len hB) (by decide)
  obtain ⟨v1, v2, v3, rfl, r1, r2, r3⟩ : ∃ v1 v2 v3, vs' = [v1, v2, v3] ∧ Rep H (dFilm fl) v1 ∧ Rep H (dInts ts) v2 ∧ Rep H (dDead dd) v3 := by
    cases r with
    | cons a t => obtain ⟨b, c, e, rb, rc⟩ := t.two; exact ⟨_, _, _, by rw [e], a, rb, rc⟩
  subst ev
  have E := env_p (N := N__law_seen_while_dying) (Ps' := [rf p, R (dFilm fl), R (dInts ts), R (dDead dd)]) (vs := [.ref p, v1, v2, v3]) (H := H) (.cons rfl (.cons r1 (.cons r2 (.cons r3 .nil))))
  have hn' : n + 40 ≤ 1000000 := hn
  have hwl : (wiresOf dd).length ≤ 40 := by unfold wiresOf; rw [List.length_append, List.length_map, List.length_map]; omega
  refine s_lc 4 G [("_law_wire", 9)] (blkOk_by (N := N__law_seen_while_dying) (sc := defScope s_law_seen_while_dying) (by decide +kernel)) ?_ (sw_true rfl rfl rfl (by decide +kernel))
  refine rl_lc (L := wiresOf dd) (enc := dWire) (c := 1) (c1 := 0) (c2 := 1) (ρ' := fun x => [some (rf p), some (R (dFilm fl)), some (R (dInts ts)), some (R (dDead dd)), none, none, none, none, none, some (R (dWire x)), none]) (fun i out => ∃ bs : List (Wire × Int), bs.length = i ∧ out = bs.map dBeg) (fun _ b => b = true) (fun x d => ∃ i : Int, d = dBeg (x, i)) [("_law_wire", 9)] E hp (by show n + 1 * (wiresOf dd).length ≤ 1000000; omega)
    (srcP_M (el_call (ok_wires_of T) (G.mono (by decide)) dd ⟨hd0, hd1⟩ (ad_one (er_var 3 rfl))) hp (fun d hd => by obtain ⟨x, _, rfl⟩ := List.mem_map.mp hd; rfl)) (by omega) (by decide) ?_ ?_ ?_ ⟨[], rfl, rfl⟩ (fun i x out hx ho hb => by cases hb) (fun i x out d hx ⟨bs, hb, e⟩ _ ⟨j, ed⟩ => ⟨bs ++ [(x, j)], by simp [hb], by subst e ed; simp⟩) fun out v H1 ⟨bs, hbl, e⟩ _ sb1 hp1 hv => ?_
  · exact fun s H0 C cl fp x hx => tg_name 9 G.nd
  · exact fun s H0 C cl fp x hx => dts_nil
  · exact fun s H0 C cl fp x hx => (dd_tup (da_cons (dd_er fun _ => er_var 9 rfl) (da_cons (dd_take (ok_take T) G.bk (by decide) (fun _ => ed_var 0 rfl) (fun _ => er_add (er_lenT T.n_len (er_var 2 rfl)) er_int) ⟨by simp only [List.length_map]; omega, by simp only [List.length_map]; omega⟩) da_nil)) (fun l ⟨_, _, e1, _, _, _, e2, _, e3⟩ => by subst e1 e2 e3; simp)).to (by decide) (fun d ⟨l, ⟨_, _, e1, e2, _, _, e3, ⟨i, e4, _⟩, e5⟩, e6⟩ => ⟨i, by subst e6 e1 e3 e5 e2 e4; rfl⟩)
  · subst e
    obtain ⟨lb, us, ev, hlb, rlb⟩ := hv
    subst ev
    have hLb : LstAt H1 lb (bs.map dBeg) := ⟨us, hlb, rlb⟩
    have E1 := (E.le (hp.le sb1)).set 4 (P := rf lb) rfl
    refine s_setD 5 G E1 ad_nil fun l σ2 H2 hl s2 hL2 E2 => ?_
    have hlbl : lb ≠ l := hLb.ne hl
    have hlp : p ≠ l := hp1.ne hl
    have hl0 : H l = none := sb1.free hp1 hl
    have enc : enumD (ts.map D.int) = enumD (ts.map D.int) := rfl
    refine s_forS G .never E2 (srcT_enumT T.n_enumerate (er_var 2 rfl)) fun H3 s3 E3 => ?_
    refine ⟨fun i σ' H' => SameBut p H H' ∧ Pot p (n + 40) H' ∧ Le H3 H' ∧ LstAt H' lb (bs.map dBeg) ∧ (∃ s : Seen, s.map Prod.fst = ts.take i ∧ (∀ x ∈ s, Lit B x.2) ∧ LstAt H' l (s.map dLook)) ∧ Env [some (rf p), some (R (dFilm fl)), some (R (dInts ts)), some (R (dDead dd)), some (rf lb), some (rf l), none, none, none, none, none] σ' H', ?_, ?_, ?_, ?_⟩
    · exact ⟨sb1.trans (.of (s2.trans s3)), (hp1.same (s2.trans s3)).mono (by omega), Le.refl _, hLb.same (s2.trans s3), ⟨[], rfl, fun _ h => (by cases h), hL2.same s3⟩, E3⟩
    · rintro i σ' H' ⟨_, _, l, _⟩; exact l
    · rintro i d v σ' H' H'' hd ⟨sb, hp', le', hb', ⟨s, hs, hsl, hLs⟩, E4⟩ s4 rd
      have hi : i < ts.length := by
        rcases Nat.lt_or_ge i ts.length with h | h
        · exact h
        · rw [List.getElem?_eq_none (by rw [enumD_len, List.length_map]; exact h)] at hd; cases hd
      have hti : ts[i]? = some ts[i] := List.getElem?_eq_getElem hi
      have : d = .tup [.int (i : Nat), .int ts[i]] := by
        have h2 := enumD_get (ds := ts.map D.int) (i := i) (d := .int ts[i]) (by rw [List.getElem?_map, hti]; rfl)
        rw [h2] at hd; cases hd; rfl
      subst this
      refine g_tup2 6 7 G rd fun u1 u2 ru1 ru2 => ?_
      have E5 := ((E4.same s4).set 6 (P := R (.int (i : Nat))) ru1).set 7 (P := R (.int ts[i])) ru2
      have hb4 := hb'.same s4
      refine s_set 8 (d := dDead (deadOf ((bs.filter fun x => decide (x.2 ≤ ((i : Nat) : Int))).map (·.1)))) G E5 (ed_call (ok_dead_of T) (G.mono (by decide)) (al_one (ed_lc (L := bs) (enc := dBeg) (fun x => decide (x.2 ≤ ((i : Nat) : Int))) (fun x => dWire x.1) G [("_law_wire", 9), ("_law_begin", 10)] (src_lst (ed_here hb4 (ed_var 4 rfl))) (blkOk_by (N := N__law_seen_while_dying) (sc := defScope s_law_seen_while_dying) (by decide +kernel)) (by omega) (fun s H0 C cl fp x hx => tg_tup2 9 10 G.nd G.calm)
        (fun s H0 C cl fp x hx => ts_one (td_le (er_var 10 rfl) (er_var 6 rfl))) fun s H0 C cl fp x hx _ => er_var 9 rfl)) (fun vs H pv Q q => by
          obtain ⟨v, _, rfl, ⟨l, us, rfl, h1, r1⟩, rfl⟩ := pv
          exact ⟨l, _, rfl, ⟨us, h1, by rw [List.map_map]; exact r1⟩, by rw [List.length_map]; exact Nat.lt_of_le_of_lt (List.length_filter_le _ _) (by omega), fun v H' s r => q v H' s r⟩)) fun σ6 H6 s6 E6 => ?_
      refine s_append (d := dLook (ts[i], leftOf (litAt fl ts[i]) (deadOf ((bs.filter fun x => decide (x.2 ≤ ((i : Nat) : Int))).map (·.1))))) E6 (hLs.same (s4.trans s6)) (ed_var 5 rfl) (er_t2 (er_var 7 rfl) (er_call (ok_left T) (G.mono (by decide)) (litAt fl ts[i], _) (hlit _) (ad_cons (er_ixt (er_var 1 rfl) (er_mod (by omega) (er_intI T.n_int (er_var 7 rfl)) (.is (er_lenT T.n_len (er_var 1 rfl)) (by rw [List.length_map]))) (atI_lit hf0)) (ad_one (er_var 8 rfl))))) (by
        have := congrArg List.length hs
        rw [List.length_map, List.length_take] at this
        rw [List.length_map]; omega) fun H7 s7 hL7 E7 => s_nil ?_
      have s46 := s4.trans s6
      refine ⟨s7.through (sb.trans (.of s46)) hl0, (hp'.same s46).but s7 hlp, (le'.trans (.of s46)).trans ((hLs.same s46).le s7), ?_, ⟨s ++ [(ts[i], leftOf (litAt fl ts[i]) (deadOf ((bs.filter fun x => decide (x.2 ≤ ((i : Nat) : Int))).map (·.1))))], ?_, ?_, ?_⟩, E7.fg (.k (.k (.k (.k (.k (.k (.d (.d (.d (.k (.k .nil)))))))))))⟩
      · obtain ⟨us', e', _⟩ := hLs.same s46
        exact (hb'.same s46).but s7 e' rfl hlbl
      · rw [List.map_append, hs, take_snoc hti]; rfl
      · intro x hx
        rcases List.mem_append.mp hx with h | h
        · exact hsl x h
        · rw [List.mem_singleton.mp h]; exact left_lit (hf.lit _ (litAt_mem _ hf0)) _
      · rw [List.map_append]; exact hL7
    · rintro σ' H' ⟨sb, hp', le', hb', ⟨s, hs, hsl, hLs⟩, E4⟩
      rw [enumD_len, List.length_map, List.take_length] at hs
      refine s_ret E4 (er_tupL T.n_tuple (ed_here hLs (ed_var 5 rfl))) fun v H8 s8 r8 => ?_
      exact q _ v H8 ⟨s, rfl, seen_ok hs ht0 ht1 hu hsl⟩ (sb.trans (.of s8)) (hp'.same s8) r8
end
end K31
namespace K31
open L2 PySem PySem.Spec PyProof.Rows
section
variable {X : Cx} {Hz : Hp} {ρ : Rho} {a b e o tg it : Expr} {es : List Expr} {pos p pp pos2 : Pos} {k n c c' c1 c2 : Nat} {p0 : Addr} {σ : L2.St} {H : Hp} {D' : Ends} {rest u v : List Stmt}
theorem s_ifD {Pb : Bool → Prop} (M : L2.St → Hp → Prop) (E : Env ρ σ H) (hp : Pot p0 n H) (hn : n + c ≤ LIMP) (h : DT X ρ p0 c e Pb) (h1 : Pb true → ∀ H', SameBut p0 H H' → Pot p0 (n + c) H' → Env ρ σ H' → WSs X u { D' with nx := M } σ H')
    (h2 : Pb false → ∀ H', SameBut p0 H H' → Pot p0 (n + c) H' → Env ρ σ H' → WSs X v { D' with nx := M } σ H') (hM : ∀ σ' H', M σ' H' → WSs X rest D' σ' H') : WSs X (.If e u v pos :: rest) D' σ H := by
  refine s_cons (.by (ps_if pt_W pss_W pss_W) ?_)
  refine h.run σ H n _ E hp hn fun k H' hk sb hp' => ?_
  have lift : ∀ {st : List Stmt}, WSs X st { D' with nx := M } σ H' → WSs X st { D' with nx := fun σ' H' => WSs X rest D' σ' H' } σ H' := fun {st} h pins s I =>
    thn (h pins s I) fun f s' hs => by
      cases f with
      | next => obtain ⟨σ', H', I', m⟩ := hs; exact ⟨σ', H', I', hM σ' H' m⟩
      | brk => exact hs
      | cont => exact hs
      | ret v => exact hs
  cases k with
  | true => exact iteT (lift (h1 hk H' sb hp' (E.le (hp.le sb))))
  | false => exact iteF (lift (h2 hk H' sb hp' (E.le (hp.le sb))))
theorem dd_cat {P1 P2 P : D → Prop} (h1 : DD X ρ p0 c1 a P1) (h2 : DD X ρ p0 c2 b P2) (h : ∀ d d', P1 d → P2 d' → ∃ ds es, d = .tup ds ∧ d' = .tup es ∧ ds.length + es.length ≤ 100000 ∧ P (.tup (ds ++ es))) : DD X ρ p0 (c1 + c2) (.BinOp a .Add b pos) P := by
  refine ⟨fun σ H n Q E hp hn q => .by (pe_op op_catA pe_W pe_W) ?_⟩
  refine h1.run σ H n _ E hp (by omega) fun d v H1 p1 s1 hp1 r1 => ?_
  refine h2.run σ H1 (n + c1) _ (E.le (hp.le s1)) hp1 (by omega) fun d' v' H2 p2 s2 hp2 r2 => ?_
  obtain ⟨ds, es, rfl, rfl, hz, pij⟩ := h d d' p1 p2
  have r1' := r1.le (hp1.le s2)
  rw [Nat.add_assoc] at hp2
  have s12 := s1.trans s2
  cases r1' with
  | tup g1 t1 =>
    cases r2 with
    | tup g2 t2 =>
      have l1 := t1.length
      have l2 := t2.length
      have hs : (100000 : Nat) ≤ sizeLine := by decide
      refine ⟨_, _, _, _, rfl, rfl, SqT.of g1, SqT.of g2, by omega, fun e => ?_, fun _ e => ?_, fun _ _ t ht => ?_⟩
      · subst e; cases t1; exact q _ _ H2 pij s12 hp2 (.tup g2 t2)
      · subst e; cases t2; rw [List.append_nil] at pij; exact q _ _ H2 pij s12 hp2 (.tup g1 t1)
      · exact q _ _ _ pij (s12.trans (.of (same_upd ht))) (hp2.same (same_upd ht)) (.tup upd_same ((t1.append t2).le (.of (same_upd ht))))
end
section
variable {X : Cx} {Hz : Hp} {ρ : Rho} {a b e : Expr} {pos : Pos} {α β : Type}
theorem ed_catX {S : α → Prop} {S' : β → Prop} {f : α → List D} {f' : β → List D} (hz : ∀ x y, S x → S' y → (f x).length + (f' y).length ≤ 100000) (ha : ED X Hz ρ a fun H v => ∃ x, S x ∧ Rep H (.tup (f x)) v) (hb : ED X Hz ρ b fun H v => ∃ x, S' x ∧ Rep H (.tup (f' x)) v) :
    ED X Hz ρ (.BinOp a .Add b pos) fun H v => ∃ x y, S x ∧ S' y ∧ Rep H (.tup (f x ++ f' y)) v := by
  refine ed_op op_catA (stb_ex fun x => stb_R) ha hb fun v u H ⟨x, hx, p1⟩ ⟨y, hy, p2⟩ Q q => ?_
  have hz := hz x y hx hy
  generalize hf : f x = ds at *
  generalize hf' : f' y = es at *
  cases p1 with
  | tup h1 r1 =>
    cases p2 with
    | tup h2 r2 =>
      have l1 := r1.length
      have l2 := r2.length
      have hs : (100000 : Nat) ≤ sizeLine := by decide
      have fin : ∀ z H', Same H H' → Rep H' (.tup (ds ++ es)) z → Q z H' := fun z H' s r => q z H' s ⟨x, y, hx, hy, by rw [hf, hf']; exact r⟩
      refine ⟨_, _, _, _, rfl, rfl, SqT.of h1, SqT.of h2, by omega, fun e => ?_, fun _ e => ?_, fun _ _ p hp => ?_⟩
      · subst e; cases r1; exact fin _ H (Same.refl H) (.tup h2 r2)
      · subst e; cases r2; rw [List.append_nil] at fin; exact fin _ H (Same.refl H) (.tup h1 r1)
      · exact fin _ _ (same_upd hp) (.tup upd_same ((r1.append r2).le (.of (same_upd hp))))
theorem ed_tup1X {S : α → Prop} {g : α → D} {n : Nat} (ha : ED X Hz ρ a fun H v => ∃ x, S x ∧ Rep H (g x) v) (hs : starEach [a] X.env = (false, eval a X.env) :: starEach [] X.env := by rfl) : ED X Hz ρ (.Tuple [a] n pos) fun H v => ∃ x, S x ∧ Rep H (.tup [g x]) v := by
  refine .by (pe_tup (pa_cons pe_W pa_nil hs)) fun σ H Q E q => ?_
  refine ha.run σ H _ E fun v H1 s1 ⟨x, hx, r⟩ => ⟨Nat.le_of_lt (small1000 (by show 1 ≤ 1000; decide)), fun t ht => q _ _ (s1.trans (same_upd ht)) ⟨x, hx, .tup upd_same (RepL.cons (r.le (.of (same_upd ht))) .nil)⟩⟩
theorem er_ex {d : D} (h : ER X Hz ρ e d) : ED X Hz ρ e fun H v => ∃ x : Unit, True ∧ Rep H ((fun _ => d) x) v := h.imp fun H v r => ⟨(), trivial, r⟩
end
theorem sub_put {α : Type} {l : List α} {a : Nat} {x y : α} (h : y ∈ l.take a ++ [x] ++ l.drop (a + 1)) : y = x ∨ y ∈ l := by
  rcases (List.mem_append.mp h) with h | h
  · rcases (List.mem_append.mp h) with h | h
    · exact .inr (List.mem_of_mem_take h)
    · exact .inl (List.mem_singleton.mp h)
  · exact .inr (List.mem_of_mem_drop h)
theorem len_put {α : Type} {l : List α} {a : Nat} (x : α) (h : a < l.length) : (l.take a ++ [x] ++ l.drop (a + 1)).length = l.length := by
  simp only [List.length_append, List.length_take, List.length_drop, List.length_cons, List.length_nil]; omega
theorem put_eq {α : Type} {l : List α} {a : Nat} {x : α} (h : l[a]? = some x) : l.take a ++ [x] ++ l.drop (a + 1) = l := by
  rw [← take_snoc h, List.take_append_drop]
theorem FilmOk.put {B : List (List Bool)} {m a : Nat} {f : Films} {l : List Dot} (h : FilmOk B m f) (ha : a < f.length) (hl : Lit B l) : FilmOk B m (f.take a ++ [l] ++ f.drop (a + 1)) where
  h0 := by rw [len_put l ha]; exact h.h0
  h1 := by rw [len_put l ha]; exact h.h1
  lit := fun x hx => (sub_put hx).elim (fun e => by rw [e]; exact hl) (h.lit x)
theorem FilmOk.turn {B : List (List Bool)} {m a : Nat} {f : Films} (h : FilmOk B m f) : FilmOk B m (f.drop a ++ f.take a) := by
  have e : (f.drop a ++ f.take a).length = f.length := by simp only [List.length_append, List.length_take, List.length_drop]; omega
  exact ⟨by rw [e]; exact h.h0, by rw [e]; exact h.h1, fun x hx => h.lit x ((List.mem_append.mp hx).elim List.mem_of_mem_drop List.mem_of_mem_take)⟩
theorem SeenOk.put {B : List (List Bool)} {a : Nat} {s : Seen} {t : Int} {l l' : List Dot} (h : SeenOk B s) (ha : s[a]? = some (t, l')) (hl : Lit B l) : SeenOk B (s.take a ++ [(t, l)] ++ s.drop (a + 1)) := by
  have hal : a < s.length := (List.getElem?_eq_some_iff.mp ha).1
  have e : (s.take a ++ [(t, l)] ++ s.drop (a + 1)).map Prod.fst = s.map Prod.fst := by
    have h2 := congrArg (List.map Prod.fst) (put_eq ha)
    rw [← h2]
    simp
  refine ⟨by rw [len_put _ hal]; exact h.h0, by rw [len_put _ hal]; exact h.h1, by rw [e]; exact h.up, fun x hx => ?_, fun x hx => ?_⟩
  · rcases sub_put hx with e | e
    · subst e; exact h.pos (t, l') (List.mem_of_getElem? ha)
    · exact h.pos _ e
  · rcases sub_put hx with e | e
    · subst e; exact hl
    · exact h.lit _ e
/-- all but one dot; and one more -/
def withDot (l : List Dot) (d : Dot) : List Dot := l.filter (fun x => !decide (x = d)) ++ (List.replicate (b2i (!decide (d ∈ l))).toNat [d]).flatten
theorem withDot_nd {l : List Dot} {d : Dot} (h : l.Nodup) : (withDot l d).Nodup := by
  unfold withDot
  by_cases hd : d ∈ l
  · rw [decide_eq_true hd]
    show (_ ++ (List.replicate 0 [d]).flatten).Nodup
    simp only [List.replicate_zero, List.flatten_nil, List.append_nil]
    exact h.sublist List.filter_sublist
  · rw [decide_eq_false hd]
    show (_ ++ (List.replicate 1 [d]).flatten).Nodup
    simp only [List.replicate_one, List.flatten_cons, List.flatten_nil, List.append_nil]
    refine List.nodup_append.mpr ⟨h.sublist List.filter_sublist, List.nodup_cons.mpr ⟨by simp, List.nodup_nil⟩, fun x hx y hy e => ?_⟩
    rw [List.mem_singleton.mp hy] at e
    subst e
    have := (List.mem_filter.mp hx).2
    simp at this
theorem withDot_sub {l : List Dot} {d x : Dot} (h : x ∈ withDot l d) : x ∈ l ∨ x = d := by
  unfold withDot at h; rcases List.mem_append.mp h with h | h
  · exact .inl (List.mem_filter.mp h).1
  · obtain ⟨y, hy, hx⟩ := List.mem_flatten.mp h
    rw [List.eq_of_mem_replicate hy] at hx
    exact .inr (List.mem_singleton.mp hx)
theorem lit_sorted {B : List (List Bool)} {l m : List Dot} (h : SortedOf l m) (hn : l.Nodup) (hs : ∀ x ∈ l, x ∈ dotsOf B) : Lit B m := ⟨h.up hn, fun x hx => hs x (h.1.mem_iff.mp hx)⟩
section
variable {P : Program} {w : World}
variable {K : PySem.W.Frag} {mg : Str → Option Value} {base : Heap}
def spNear : Sp := spD 110 (fun z : Boards × Films => [dRows z.1, dFilm z.2]) (fun z => GoodB z.1 ∧ FilmOk z.1 4 z.2) (fun z d => ∃ f, FilmOk z.1 4 f ∧ d = dFilm f)
theorem ok_near_film (T : Tx K mg) : DefOk P w K mg base 4 "_law_near_film" spNear := by
  refine T.d__law_near_film (spD_len fun _ => rfl) fun X vs H Q E ⟨f, cdv, A, outer, s, e⟩ G ⟨⟨B, fl⟩, p, n, vs', ev, r, hp, hn, ⟨hB, hf⟩, q⟩ => ?_
  subst e
  obtain ⟨v1, v2, rfl, r1, r2⟩ := r.two
  subst ev
  simp only at hB hf
  have hf0 := hf.h0
  have hf1 := hf.h1
  have hn' : n + 110 ≤ 1000000 := hn
  have E := env_p (N := N__law_near_film) (Ps' := [rf p, R (dRows B), R (dFilm fl)]) (vs := [.ref p, v1, v2]) (H := H) (.cons rfl (.cons r1 (.cons r2 .nil)))
  have hlen : (fl.map dLit).length = fl.length := List.length_map ..
  refine s_par2 3 4 G ?_
  refine we_take (ok_take T) G (by decide) E hp (by show n + 1 ≤ 1000000; omega) (fun _ => ed_var 0 rfl) (er_lenT T.n_len (er_var 2 rfl)) ⟨by omega, by omega⟩ fun i H1 i0 i1 s1 hp1 => ?_
  refine we_take (ok_take T) G (by decide) (E.le (hp.le s1)) hp1 (by show n + 1 + 1 ≤ 1000000; omega) (fun _ => ed_var 0 rfl) er_int ⟨by decide, by decide⟩ fun way H2 w0 w1 s2 hp2 => ?_
  obtain ⟨a, rfl⟩ : ∃ a : Nat, i = a := ⟨i.toNat, by omega⟩
  have ha : a < fl.length := by omega
  have s12 := s1.trans s2
  have E2 := ((E.le (hp.le s12)).set 3 (P := R (.int (a : Nat))) (.int _)).set 4 (P := R (.int way)) (.int _)
  have hcut : ∀ lo hi, (cutG fl lo hi).length ≤ 4 := fun lo hi => by
    unfold cutG; rw [List.length_take, List.length_drop]; omega
  have ha1 : ((a : Nat) : Int) + 1 = ((a + 1 : Nat) : Int) := by omega
  refine s_if E2 (td_eqI (er_var 4 rfl) er_int) (fun _ H3 s3 E3 => ?_) fun _ H3 s3 E3 => s_nil ?_
  · refine s_ret E3 (er_cat (by rw [cutD_map, cutD_map, List.length_map, List.length_map]; have := hcut (some a) none; have := hcut none (some a); omega) (er_slt (er_var 2 rfl) (od_some (er_var 3 rfl)) od_none) (er_slt (er_var 2 rfl) od_none (od_some (er_var 3 rfl)))) fun v H4 s4 r4 => ?_
    rw [cutD_map, cutD_map, cutG_from, cutG_to, ← List.map_append] at r4
    exact q _ v H4 ⟨_, hf.turn (a := a), rfl⟩ (s12.trans (.of (s3.trans s4))) ((hp2.same (s3.trans s4)).mono (by omega)) r4
  · have hp3 := hp2.same s3
    refine s_if E3 (td_eqI (er_var 4 rfl) er_int) (fun _ H4 s4 E4 => ?_) fun _ H4 s4 E4 => s_nil ?_
    · refine s_retD (n := n + 1 + 1) (c := 102) E4 (hp3.same s4) (by show n + 1 + 1 + 102 ≤ 1000000; omega) (P := fun d => ∃ l, Lit B l ∧ d = dFilm (fl.take a ++ [l] ++ fl.drop (a + 1))) ((dd_cat (dd_cat (P := fun d => ∃ l, Lit B l ∧ d = dFilm (fl.take a ++ [l])) (dd_er fun _ => er_slt (er_var 2 rfl) od_none (od_some (er_var 3 rfl)))
        (dd_tup (da_cons (dd_call (c' := 0) (ok_lit T) G (fun _ => ed_var 0 rfl) (da_cons (dd_er fun _ => er_var 1 rfl) da_nil) (P' := fun d => ∃ l, Lit B l ∧ d = dLit l) (fun l ⟨d, r, e1, e2, e3⟩ => by subst e1 e2 e3; exact ⟨B, rfl, hB, fun d h => h⟩)) da_nil) (fun l ⟨_, _, e1, _, e2⟩ => by subst e1 e2; simp)) ?_) (dd_er fun _ => er_slt (er_var 2 rfl) (od_some (er_add (er_var 3 rfl) er_int)) od_none) ?_).to (by decide) fun _ h => h) fun d v H5 ⟨l, hl, ed⟩ sb5 hp5 r5 => ?_
      · rintro d d' rfl ⟨l, ⟨_, _, e1, ⟨l', hl', e2⟩, e3⟩, e4⟩
        subst e1 e2 e3 e4
        refine ⟨_, _, rfl, rfl, ?_, l', hl', ?_⟩
        · rw [cutD_map, List.length_map]; have := hcut none (some a); simp; omega
        · rw [cutD_map, cutG_to]; unfold dFilm; rw [List.map_append]; rfl
      · rintro d d' ⟨l, hl, e⟩ rfl
        subst e
        refine ⟨_, _, rfl, rfl, ?_, l, hl, ?_⟩
        · rw [cutD_map, List.length_map, List.length_map, List.length_append, List.length_take]; have := hcut (some (a + 1)) none; simp; omega
        · rw [ha1, cutD_map, cutG_from]; simp [dFilm]
      · subst ed
        exact q _ v H5 ⟨_, hf.put ha hl, rfl⟩ ((s12.trans (.of (s3.trans s4))).trans sb5) (hp5.mono (by omega)) r5
    · have hp4 := hp3.same s4
      have s14 := s12.trans (.of (s3.trans s4))
      refine s_dd 5 (c := 1) (P := fun d => ∃ x ∈ dotsOf B, d = dDot x) G E4 hp4 (by show n + 1 + 1 + 1 ≤ 1000000; omega) ((dd_of (c := 0) (ok_of T) G (by decide) (fun _ => ed_var 0 rfl) (dl_ed fun _ => el_call (ok_dots T) (G.mono (by decide)) B (fun r hr => ⟨hB.le10 r hr, hB.h1⟩) (ad_one (er_var 1 rfl))) ?_).to (by decide) ?_) fun d σ5 H5 ⟨x, hx, ed⟩ sb5 hp5 E5 => ?_
      · intro ds e
        subst e
        rw [List.length_map]
        refine ⟨List.length_pos_iff.mpr hB.dots_pos, by have := hB.dots_len; omega, .inr fun d hd => ?_⟩
        obtain ⟨y, _, rfl⟩ := List.mem_map.mp hd
        rfl
      · rintro d ⟨ds, e, hd⟩
        subst e
        obtain ⟨y, hy, rfl⟩ := List.mem_map.mp hd
        exact ⟨y, hy, rfl⟩
      · subst ed
        have hla : fl[a]? = some fl[a] := List.getElem?_eq_getElem ha
        have hL : Lit B fl[a] := hf.lit _ (List.getElem_mem ha)
        have hat : atI (fl.map dLit) ((a : Nat) : Int) = some (dLit fl[a]) := atI_nat (by rw [List.getElem?_map, hla]; rfl)
        have hl100 := hL.len hB
        refine s_setL 6 (ds := (withDot fl[a] x).map dDot) G E5 (.imp (el_cat (ds := ((fl[a].filter fun y => !decide (y = x)).map dDot)) (es := (List.replicate (b2i (!decide (x ∈ fl[a]))).toNat [dDot x]).flatten) ?_ (ed_lc (L := fl[a]) (enc := dDot) (fun y => !decide (y = x)) dDot G [("_law_one", 7)] (src_tup (er_ixt (er_var 2 rfl) (er_var 3 rfl) hat)) (blkOk_by (N := N__law_near_film) (sc := defScope s_law_near_film) (by decide +kernel)) (by omega) (fun s H0 C cl fp x hx => tg_name 7 G.nd)
          (fun s H0 C cl fp y hy => ts_one (td_neE enc_dot (by decide) G.bk (er_var 7 rfl) (er_var 5 rfl))) fun s H0 C cl fp x hx _ => er_var 7 rfl) (el_rep ⟨b2i_nn _, ?_⟩ (by simp) (ed_lst (ad_one (er_var 5 rfl)) (by simp)) (er_intB T.n_int (er_ninE enc_dot (by decide) G (er_var 5 rfl) (er_ixt (er_var 2 rfl) (er_var 3 rfl) hat))))) fun H v h => ?_) fun l σ6 H6 s6 hL6 E6 => ?_
        · rw [List.length_map, flatten_rep1, List.length_replicate]
          have := List.length_filter_le (fun y => !decide (y = x)) fl[a]
          cases (!decide (x ∈ fl[a])) <;> simp [b2i] <;> omega
        · cases (!decide (x ∈ fl[a])) <;> simp [b2i]
        · unfold withDot
          rw [List.map_append, List.map_flatten, List.map_replicate]
          exact h
        · refine s_ret E6 (P := fun H v => ∃ l, Lit B l ∧ Rep H (dFilm (fl.take a ++ [l] ++ fl.drop (a + 1))) v) (.imp (ed_catX (S := fun z : Unit × List Dot => Lit B z.2) (f := fun z => (fl.take a).map dLit ++ [dLit z.2]) (S' := fun _ : Unit => True) (f' := fun _ => (fl.drop (a + 1)).map dLit) ?_ (.imp (ed_catX (S := fun _ : Unit => True) (f := fun _ => (fl.take a).map dLit) (S' := Lit B) (f' := fun l => [dLit l]) ?_ (er_ex (.is (er_slt (er_var 2 rfl) od_none (od_some (er_var 3 rfl))) (by rw [cutD_map, cutG_to]))) (ed_tup1X (.imp (ed_tupX (P := fun ds => ∃ m, SortedOf (withDot fl[a] x) m ∧ ds = m.map dDot) T.n_tuple (.imp (ed_sortDots T.n_sorted (ed_here hL6 (ed_var 6 rfl))) fun H v ⟨m, hm, h⟩ => ⟨_, ⟨m, hm, rfl⟩, h⟩)) fun H v ⟨ds, ⟨m, hm, e⟩, r⟩ => ⟨m, lit_sorted hm (withDot_nd hL.nodup) (fun y hy => (withDot_sub hy).elim (hL.2 y) fun e => by rw [e]; exact hx), by subst e; exact r⟩)))
            fun H v ⟨_, l, _, hl, r⟩ => ⟨((), l), hl, r⟩) (er_ex (.is (er_slt (er_var 2 rfl) (od_some (er_add (er_var 3 rfl) er_int)) od_none) (by rw [ha1, cutD_map, cutG_from])))) fun H v ⟨z, _, hl, _, r⟩ => ⟨z.2, hl, by unfold dFilm; rw [List.map_append, List.map_append]; exact r⟩) fun v H7 s7 ⟨l, hl, r7⟩ => q _ v H7 ⟨_, hf.put ha hl, rfl⟩ ((s14.trans sb5).trans (.of (s6.trans s7))) ((hp5.same (s6.trans s7)).mono (by omega)) r7
          · intro z y hz hy
            simp only [List.length_append, List.length_map, List.length_take, List.length_drop, List.length_cons, List.length_nil]; omega
          · intro z y hz hy
            simp only [List.length_map, List.length_take, List.length_cons, List.length_nil]; omega
end
end K31
namespace K31
open L2 PySem PySem.Spec PyProof.Rows
section
variable {P : Program} {w : World}
variable {K : PySem.W.Frag} {mg : Str → Option Value} {base : Heap}
def spBent : Sp := spD 5 (fun z : Boards × Seen => [dRows z.1, dSeen z.2]) (fun z => GoodB z.1 ∧ SeenOk z.1 z.2) (fun z d => ∃ s, SeenOk z.1 s ∧ d = dSeen s)
theorem ok_bent_seen (T : Tx K mg) : DefOk P w K mg base 3 "_law_bent_seen" spBent := by
  refine T.d__law_bent_seen (spD_len fun _ => rfl) fun X vs H Q E ⟨f, cdv, A, outer, s, e⟩ G ⟨⟨B, se⟩, p, n, vs', ev, r, hp, hn, ⟨hB, hs⟩, q⟩ => ?_
  subst e
  obtain ⟨v1, v2, rfl, r1, r2⟩ := r.two
  subst ev
  simp only at hB hs
  have hs0 := hs.h0
  have hs1 := hs.h1
  have hn' : n + 5 ≤ 1000000 := hn
  have E := env_p (N := N__law_bent_seen) (Ps' := [rf p, R (dRows B), R (dSeen se)]) (vs := [.ref p, v1, v2]) (H := H) (.cons rfl (.cons r1 (.cons r2 .nil)))
  have hlen : (se.map dLook).length = se.length := List.length_map ..
  refine s_par2c 3 4 G ?_
  refine we_take (ok_take T) G (by decide) E hp (by show n + 1 ≤ 1000000; omega) (fun _ => ed_var 0 rfl) (er_lenT T.n_len (er_var 2 rfl)) ⟨by omega, by omega⟩ fun i H1 i0 i1 s1 hp1 => ?_
  obtain ⟨a, rfl⟩ : ∃ a : Nat, i = a := ⟨i.toNat, by omega⟩
  have ha : a < se.length := by omega
  have dotsNe : ∀ ds, ds = (dotsOf B).map dDot → 0 < ds.length ∧ ds.length < 1000000 ∧ (ds.length ≠ 3 ∨ ∀ d ∈ ds, d.isTup = true) := by
    intro ds e
    subst e
    rw [List.length_map]
    refine ⟨List.length_pos_iff.mpr hB.dots_pos, by have := hB.dots_len; omega, .inr fun d hd => ?_⟩
    obtain ⟨y, _, rfl⟩ := List.mem_map.mp hd
    rfl
  refine (dd_of (c := 0) (ok_of T) G (by decide) (fun _ => ed_var 0 rfl) (dl_ed fun _ => el_call (ok_dots T) (G.mono (by decide)) B (fun r hr => ⟨hB.le10 r hr, hB.h1⟩) (ad_one (er_var 1 rfl))) dotsNe).run _ _ _ _ (E.le (hp.le s1)) hp1 (by show n + 1 + (0 + 1) ≤ 1000000; omega) fun d v H2 ⟨ds, e, hd⟩ s2 hp2 rv t ht => ?_
  subst e
  obtain ⟨x, hx, rfl⟩ := List.mem_map.mp hd
  have s12 := s1.trans s2
  have st := same_upd (o := .tup [.int ((a : Nat) : Int), v]) ht
  have E2 := (((E.le (hp.le s12)).set 3 (P := R (.int (a : Nat))) (.int _)).set 4 (P := R (dDot x)) rv).same st
  have hp2' := hp2.same st
  obtain ⟨tk, li, hse⟩ : ∃ tk li, se[a]? = some (tk, li) := ⟨se[a].1, se[a].2, List.getElem?_eq_getElem ha⟩
  have hli : Lit B li := hs.lit _ (List.mem_of_getElem? hse)
  have hl100 := hli.len hB
  have hat : atI (se.map dLook) ((a : Nat) : Int) = some (.tup [.int tk, dLit li]) := atI_nat (by rw [List.getElem?_map, hse]; rfl)
  have ha1 : ((a : Nat) : Int) + 1 = ((a + 1 : Nat) : Int) := by omega
  refine s_unp2 5 6 G E2 (er_ixt (er_var 2 rfl) (er_var 3 rfl) hat) fun σ3 H3 s3 E3 => ?_
  have hp3 := hp2'.same s3
  have sb3 : SameBut p H H3 := s12.trans (.of (st.trans s3))
  let ρ1 : Rho := [some (rf p), some (R (dRows B)), some (R (dSeen se)), some (R (.int (a : Nat))), some (R (dDot x)), some (R (.int tk)), some (R (dLit li)), none]
  let M : L2.St → Hp → Prop := fun σ' H' => ∃ l, Lit B l ∧ SameBut p H H' ∧ Pot p (n + 5) H' ∧ Env (ρ1.set 6 (some (R (dLit l)))) σ' H'
  refine s_ifD (c := 1) (n := n + 1 + (0 + 1)) (Pb := fun _ => True) M E3 hp3 (by show n + 1 + (0 + 1) + 1 ≤ 1000000; omega) (dt_eqI (dd_take (ok_take T) G (by decide) (fun _ => ed_var 0 rfl) (fun _ => er_int) ⟨by decide, by decide⟩) (fun d ⟨i, e, _⟩ => ⟨i, e⟩) fun _ => er_int) (fun _ H4 sb4 hp4 E4 => ?_) (fun _ H4 sb4 hp4 E4 => ?_) fun σ5 H5 ⟨l, hl, sb5, hp5, E5⟩ => ?_
  · obtain ⟨z0, hz0⟩ : ∃ z0, se[0]? = some z0 := ⟨se[0], List.getElem?_eq_getElem hs0⟩
    have hl0 : Lit B z0.2 := hs.lit _ (List.mem_of_getElem? hz0)
    refine s_dd 6 (c := 1) (P := fun d => ∃ l, Lit B l ∧ d = dLit l) G E4 hp4 (by show n + 1 + (0 + 1) + 1 + 1 ≤ 1000000; omega) ((dd_of (c := 0) (P := fun ds => ds = [dLit [], dLit (li.drop 1), dLit (li.take 1), dLit (dotsOf B), dLit z0.2]) (ok_of T) G (by decide) (fun _ => ed_var 0 rfl) (dl_ed fun _ => ed_lst (ad_cons (er_tup ad_nil) (ad_cons (.is (er_slt (er_var 6 rfl) (od_some er_int) od_none) (by rw [cutD_map, show (1 : Int) = ((1 : Nat) : Int) from rfl, cutG_from]; rfl)) (ad_cons (.is (er_slt (er_var 6 rfl) od_none (od_some er_int)) (by rw [cutD_map, show (1 : Int) = ((1 : Nat) : Int) from rfl, cutG_to]; rfl))
      (ad_cons (er_tupL T.n_tuple (el_call (ok_dots T) (G.mono (by decide)) B (fun r hr => ⟨hB.le10 r hr, hB.h1⟩) (ad_one (er_var 1 rfl)))) (ad_one (er_ixt (er_ixt (er_var 2 rfl) er_int (atI_nat (j := 0) (by rw [List.getElem?_map, hz0]; rfl))) er_int rfl)))))) (by simp)) ?_).to (by decide) ?_) fun d σ6 H6 ⟨l, hl, ed⟩ sb6 hp6 E6 => s_nil ?_
    · intro ds e
      subst e
      exact ⟨by simp, by simp, .inl (by simp)⟩
    · rintro d ⟨ds, e, hd⟩
      subst e
      simp only [List.mem_cons, List.not_mem_nil, or_false] at hd
      rcases hd with e | e | e | e | e <;> subst e
      · exact ⟨[], lit_nil B, rfl⟩
      · exact ⟨_, hli.sub (List.drop_sublist ..), rfl⟩
      · exact ⟨_, hli.sub (List.take_sublist ..), rfl⟩
      · exact ⟨_, lit_all B, rfl⟩
      · exact ⟨_, hl0, rfl⟩
    · subst ed
      exact ⟨l, hl, (sb3.trans sb4).trans sb6, hp6.mono (by omega), E6⟩
  · refine s_if E4 (td_inE enc_dot (by decide) G (er_var 4 rfl) (er_var 6 rfl)) (fun hk H5 s5 E5 => ?_) fun hk H5 s5 E5 => ?_
    · refine s_set 6 (d := dLit (li.filter fun y => !decide (y = x))) G E5 (er_tupL T.n_tuple (ed_lc (L := li) (enc := dDot) (fun y => !decide (y = x)) dDot G [("_law_one", 7)] (src_tup (er_var 6 rfl)) (blkOk_by (N := N__law_bent_seen) (sc := defScope s_law_bent_seen) (by decide +kernel)) (by omega) (fun s H0 C cl fp x hx => tg_name 7 G.nd)
          (fun s H0 C cl fp y hy => ts_one (td_neE enc_dot (by decide) G.bk (er_var 7 rfl) (er_var 4 rfl))) fun s H0 C cl fp x hx _ => er_var 7 rfl)) fun σ6 H6 s6 E6 => s_nil (s_nil ?_)
      exact ⟨_, hli.sub List.filter_sublist, (sb3.trans sb4).trans (.of (s5.trans s6)), (hp4.same (s5.trans s6)).mono (by omega), E6⟩
    · have hk' : x ∉ li := by simpa using hk
      refine s_asg 6 (P := fun H v => ∃ ds, (∃ m, SortedOf (li ++ [x]) m ∧ ds = m.map dDot) ∧ Rep H (.tup ds) v) G E5 (ed_tupX T.n_tuple (.imp (ed_sortDots (l := li ++ [x]) T.n_sorted (.imp (el_cat (ds := li.map dDot) (es := [dDot x]) (by simp; omega) (el_lstT T.n_list (er_var 6 rfl)) (ed_lst (ad_one (er_var 4 rfl)) (by simp))) fun H v h => by rw [List.map_append]; exact h)) fun H v ⟨m, hm, h⟩ => ⟨_, ⟨m, hm, rfl⟩, h⟩)) fun v H6 s6 ⟨ds, ⟨m, hm, e⟩, r6⟩ E6 => s_nil (s_nil ?_)
      subst e
      have hm' : Lit B m := lit_sorted hm (List.nodup_append.mpr ⟨hli.nodup, List.nodup_cons.mpr ⟨by simp, List.nodup_nil⟩, fun a ha b hb e => by rw [List.mem_singleton.mp hb] at e; subst e; exact hk' ha⟩) fun y hy => (List.mem_append.mp hy).elim (hli.2 y) fun e => by rw [List.mem_singleton.mp e]; exact hx
      exact ⟨m, hm', (sb3.trans sb4).trans (.of (s5.trans s6)), (hp4.same (s5.trans s6)).mono (by omega), E6.set 6 (P := R (dLit m)) r6⟩
  · have hl1 := hl.len hB
    refine s_ret E5 (er_cat ?_ (er_cat ?_ (er_slt (er_var 2 rfl) od_none (od_some (er_var 3 rfl))) (er_t1 (er_t2 (er_var 5 rfl) (er_var 6 rfl)))) (er_slt (er_var 2 rfl) (od_some (er_add (er_var 3 rfl) er_int)) od_none)) fun v H6 s6 r6 => ?_
    · rw [ha1, cutD_map, cutD_map, cutG_to, cutG_from]
      simp only [List.length_append, List.length_map, List.length_take, List.length_drop, List.length_cons, List.length_nil]; omega
    · rw [cutD_map, cutG_to]
      simp only [List.length_map, List.length_take, List.length_cons, List.length_nil]; omega
    · rw [ha1, cutD_map, cutD_map, cutG_to, cutG_from] at r6
      refine q _ v H6 ⟨_, hs.put hse hl, rfl⟩ (sb5.trans (.of s6)) (hp5.same s6) ?_
      unfold dSeen
      rw [List.map_append, List.map_append]
      exact r6
def spDrawn : Sp := spD 200 (fun z : Boards × Films × Deads => [dRows z.1, dFilm z.2.1, dDead z.2.2, .int 12]) (fun z => GoodB z.1 ∧ FilmOk z.1 8 z.2.1 ∧ z.2.2.1.length ≤ 20 ∧ z.2.2.2.length ≤ 20) (fun z d => ∃ s, SeenOk z.1 s ∧ d = dSeen s)
theorem ok_drawn_seen (T : Tx K mg) : DefOk P w K mg base 4 "_law_drawn_seen" spDrawn := by
  refine T.d__law_drawn_seen (spD_len fun _ => rfl) fun X vs H Q E ⟨f, cdv, A, outer, s, e⟩ G ⟨⟨B, fl, dd⟩, p, n, vs', ev, r, hp, hn, ⟨hB, hf, hd0, hd1⟩, q⟩ => ?_
  subst e
  simp only at hB hf hd0 hd1
  have hn' : n + 200 ≤ 1000000 := hn
  obtain ⟨v1, v2, v3, v4, rfl, r1, r2, r3, r4⟩ : ∃ v1 v2 v3 v4, vs' = [v1, v2, v3, v4] ∧ Rep H (dRows B) v1 ∧ Rep H (dFilm fl) v2 ∧ Rep H (dDead dd) v3 ∧ Rep H (.int 12) v4 := by
    cases r with
    | cons a t => cases t with
      | cons b t => obtain ⟨c, d, e, rc, rd⟩ := t.two; exact ⟨_, _, _, _, by rw [e], a, b, rc, rd⟩
  subst ev
  have E := env_p (N := N__law_drawn_seen) (Ps' := [rf p, R (dRows B), R (dFilm fl), R (dDead dd), R (.int 12)]) (vs := [.ref p, v1, v2, v3, v4]) (H := H) (.cons rfl (.cons r1 (.cons r2 (.cons r3 (.cons r4 .nil)))))
  refine s_par2 5 6 G ?_
  refine (dd_call (c' := 0) (P' := fun d => ∃ l : List Int, d = dInts l ∧ 0 < l.length ∧ l.length ≤ 12 ∧ upLooks l) (ok_far_looks T) G (fun _ => ed_var 0 rfl) (da_cons (dd_er fun _ => er_var 4 rfl) da_nil) (fun l ⟨_, _, e1, e2, e3⟩ => by subst e1 e2 e3; exact ⟨12, rfl, ⟨by decide, by decide⟩, fun d h => h⟩)).run _ _ n _ E hp (by show n + (0 + 0 + 100) ≤ 1000000; omega) fun d v H1 ⟨ts, ed, ht0, ht1, hu⟩ s1 hp1 rv => ?_
  subst ed
  refine we_take (ok_take T) G (by decide) (E.le (hp.le s1)) hp1 (by show n + (0 + 0 + 100) + 1 ≤ 1000000; omega) (fun _ => ed_var 0 rfl) er_int ⟨by decide, by decide⟩ fun way H2 w0 w1 s2 hp2 => ?_
  have E2 := ((E.le (hp.le (s1.trans s2))).set 5 (P := R (dInts ts)) (rv.le (hp1.le s2))).set 6 (P := R (.int way)) (.int _)
  have hlit : ∀ l ∈ fl, l.length ≤ 1000 := fun l hl => Nat.le_trans ((hf.lit l hl).len hB) (by decide)
  refine s_dd 7 (c := 40) (P := fun d => ∃ s, SeenOk B s ∧ d = dSeen s) G E2 hp2 (by show n + (0 + 0 + 100) + 1 + 40 ≤ 1000000; omega) (dd_if (fun _ => td_eqI (er_var 6 rfl) er_int) (fun _ => (dd_call (c' := 0) (ok_swd T) G (fun _ => ed_var 0 rfl) (da_cons (dd_er fun _ => er_var 2 rfl) (da_cons (dd_er fun _ => er_var 5 rfl) (da_cons (dd_er fun _ => er_var 3 rfl) da_nil))) (fun l ⟨_, _, e1, e2, _, _, e3, e4, _, _, e5, e6, e7⟩ => by
      subst e1 e3 e5 e7 e2 e4 e6
      exact ⟨(B, fl, ts, dd), rfl, ⟨hB, hf, ht0, ht1, hu, hd0, hd1⟩, fun d ⟨s, e, h⟩ => ⟨s, h, e⟩⟩)).to (by decide) fun _ h => h)
      fun _ => (dd_er fun _ => er_call (ok_shown T) G (fl, ts, dd) ⟨hf.h0, hlit, by show ts.length ≤ 1000; omega⟩ (ad_cons (er_var 2 rfl) (ad_cons (er_var 5 rfl) (ad_one (er_var 3 rfl))))).to (by decide) fun d e => by subst e; exact ⟨_, shown_ok hf ht0 ht1 hu dd, rfl⟩) fun d σ3 H3 ⟨se, hse, ed⟩ sb3 hp3 E3 => ?_
  subst ed
  refine s_retD (c := 5) (P := fun d => ∃ s, SeenOk B s ∧ d = dSeen s) E3 hp3 (by show n + (0 + 0 + 100) + 1 + 40 + 5 ≤ 1000000; omega) (dd_if (fun _ => td_eqI (er_var 6 rfl) er_int) (fun _ => (dd_call (c' := 0) (ok_bent_seen T) G (fun _ => ed_var 0 rfl) (da_cons (dd_er fun _ => er_var 1 rfl) (da_cons (dd_er fun _ => er_var 7 rfl) da_nil)) (fun l ⟨_, _, e1, e2, _, _, e3, e4, e5⟩ => by
      subst e1 e3 e5 e2 e4
      exact ⟨(B, se), rfl, ⟨hB, hse⟩, fun d h => h⟩)).to (by decide) fun _ h => h) fun _ => (dd_er fun _ => er_var 7 rfl).to (by decide) fun d e => by subst e; exact ⟨se, hse, rfl⟩) fun d v H4 hd sb4 hp4 r5 => ?_
  exact q d v H4 hd (((s1.trans s2).trans sb3).trans sb4) (hp4.mono (by omega)) r5
end
end K31
namespace K31
open L2 PySem PySem.Spec PyProof.Rows
/-! ### sources: a list at its place -/
structure SrcA (X : Cx) (Hz : Hp) (ρ : Rho) (tg it : Expr) (a : Addr) (ds : List D) : Prop where
  run : ∀ (σ : L2.St) (H : Hp) (R : It → Hp → Prop), En Hz ρ σ H → (∀ (J : It) (H1 : Hp) (G : Hp → Prop), Same H H1 → (∀ Hb, Hb a = H1 a → G Hb) →
    Walk J ds.length G (fun i Ha v Hb => Same Ha Hb ∧ ∃ d, ds[i]? = some d ∧ (Le H1 Ha → Rep Hb d v)) → R J H1) → WI X tg it σ H R
section
variable {X : Cx} {Hz : Hp} {ρ : Rho} {e c1e it tg elt o : Expr} {es : List Expr} {pos p pp pos2 tpos : Pos} {k n c c' c1 c2 kk : Nat} {p0 a : Addr} {σ : L2.St} {H : Hp} {D' : Ends} {rest body u v : List Stmt} {elts : List Expr}
theorem srcA_list {ds : List D} (h : ED X Hz ρ it (rf a).p) (hl : LstAt Hz a ds) : SrcA X Hz ρ tg it a ds := by
  refine ⟨fun σ H R E q => .by (pi_list pe_W) ?_⟩
  refine h.run σ H _ E fun v H1 s1 ev => ?_
  obtain rfl : v = .ref a := ev
  obtain ⟨vs, h1, r1⟩ := hl.same (E.s0.trans s1)
  refine ⟨_, rfl, ⟨_, SqL.of h1⟩, q _ H1 (fun H => H a = some (.lst vs)) s1 (fun Hb e => e.trans h1) ?_⟩
  rw [r1.length]
  refine Walk.mono walk_list (fun H g => SqL.of g) fun i Ha v Hb hi g y => ?_
  obtain ⟨rfl, hx⟩ := y
  obtain ⟨d, hd, rd⟩ := r1.getV hx
  exact ⟨Same.refl _, d, hd, fun l => rd.le l⟩
theorem srcA_enum {ds : List D} (hm : X.mg "enumerate" = none) (h : ED X Hz ρ e (rf a).p) (hl : LstAt Hz a ds) (hg : Gl X "enumerate" := by rfl) (hs : starEach [e] X.env = [(false, eval e X.env)] := by rfl) : SrcA X Hz ρ (.Tuple elts kk tpos) (.Call (.Name "enumerate" p) [e] [] pos) a (enumD ds) := by
  refine ⟨fun σ H R E q => .by (pi_enum hg hm (pa_cons pe_W pa_nil hs) hs) ?_⟩
  refine h.run σ H _ E fun v H1 s1 ev => ?_
  obtain rfl : v = .ref a := ev
  obtain ⟨vs, h1, r1⟩ := hl.same (E.s0.trans s1)
  refine ⟨a, vs, rfl, SqL.of h1, q _ H1 (fun H => H a = some (.lst vs)) s1 (fun Hb e => e.trans h1) ?_⟩
  rw [enumD_len, r1.length]
  refine Walk.mono walk_enum (fun H g => SqL.of g) fun i Ha v Hb hi g y => ?_
  obtain ⟨T, x, y', rfl, hT, rfl, hx, hy⟩ := y
  cases hx
  obtain ⟨d, hd, rd⟩ := r1.getV hy
  exact ⟨same_upd hT, _, enumD_get hd, fun l => .tup upd_same (.cons (.int _) (.cons (rd.le (l.trans (.of (same_upd hT)))) .nil))⟩
theorem s_forA {ds : List D} (G : GX X k) (hp : PassesOwn (model X.prog X.w) X.A X.env X.xe) (E : Env ρ σ H) (hi : SrcA X H ρ tg it a ds)
    (q : ∀ H1, Same H H1 → Env ρ σ H1 → ∃ J : Nat → L2.St → Hp → Prop, J 0 σ H1 ∧ (∀ i σ' H', J i σ' H' → Le H1 H' ∧ H' a = H1 a) ∧
      (∀ i d v σ' H' H'', ds[i]? = some d → J i σ' H' → Same H' H'' → Rep H'' d v → WG X tg v σ' H'' fun σ2 H2 => WSs X body { D' with nx := J (i + 1), ct := J (i + 1), bk := fun σ' H' => WSs X rest D' σ' H' } σ2 H2) ∧
      (∀ σ' H', J ds.length σ' H' → WSs X rest D' σ' H'))
    (hs : ∀ x, foldedSetIterable it X.env x = pure x := by intro _; rfl) : WSs X (.For tg it body [] pos :: rest) D' σ H := by
  refine s_cons (.by (ps_for hp G.calm pi_W pg_W pss_W hs) ?_)
  refine hi.run σ H _ E.en fun It H1 Gd s1 gs wk => ?_
  obtain ⟨J, j0, jl, js, jd⟩ := q H1 s1 (E.same s1)
  refine for_it wk J j0 (fun i σ' H' _ j => gs _ (jl i σ' H' j).2) (fun i x σ' H' H'' hi' j y => ?_) fun σ' H' j => jd σ' H' j
  obtain ⟨sab, d, hd, rd⟩ := y
  exact js i d x σ' H' H'' hd j sab (rd (jl i σ' H' j).1)
/-! ### draws -/
theorem we_of {pe : Expr} {ds : List D} {Q : VK} (F : DefOk X.prog X.w X.K X.mg X.base 2 "_law_of" spOf) (G : GX X k) (hk : 2 ≤ k) (E : Env ρ σ H) (hp : Pot p0 n H) (hn : n + 1 ≤ LIMP) (hρ : ∀ Hz, ED X Hz ρ pe (rf p0).p) (h : ED X H ρ e (Lst ds)) (hne : 0 < ds.length ∧ ds.length < 1000000 ∧ (ds.length ≠ 3 ∨ ∀ d ∈ ds, d.isTup = true))
    (q : ∀ d v H', d ∈ ds → SameBut p0 H H' → Pot p0 (n + 1) H' → Rep H' d v → Q v H') (hg : Gl X "_law_of" := by rfl)
    (hs : starEach [pe, e] X.env = (false, eval pe X.env) :: starEach [e] X.env := by rfl) (hs2 : starEach [e] X.env = (false, eval e X.env) :: starEach [] X.env := by rfl) (hpl : (backTo pos (starEach [e] X.env)).any (·.1) = false := by rfl) :
    WE X (.Call (.Name "_law_of" pp) [pe, e] [] pos) σ H Q := by
  refine we_call F (G.mono hk) ?_ hg (by decide) hs hpl
  refine .by (pa_cons pe_W (pa_cons pe_W pa_nil hs2) hs) ?_
  refine (hρ H).run σ H _ E.en fun v H1 s1 ev => ?_
  obtain rfl : v = .ref p0 := ev
  refine h.run σ H1 _ (E.en.same s1) fun v H2 s2 ⟨l, us, ev, hl, r⟩ => ?_
  subst ev
  obtain ⟨h0, h1, h2⟩ := hne
  have hL : LstAt H2 l ds := ⟨us, hl, r⟩
  have hp2 := hp.same (s1.trans s2)
  refine ⟨p0, l, n, ds, rfl, hp2, by omega, hL, ?_, h0, h1, fun d v H3 hd s3 hp3 r3 => q d v H3 hd ((SameBut.of (s1.trans s2)).trans s3) hp3 r3⟩
  rcases h2 with h2 | h2
  · exact pot_ne_len hp2 hL h2
  · exact pot_ne_tup hp2 hL h2
theorem dd_ifD {P : D → Prop} {t a b : Expr} {Pb : Bool → Prop} (hc : DT X ρ p0 c1 t Pb) (ha : Pb true → DD X ρ p0 c2 a P) (hb : Pb false → DD X ρ p0 c2 b P) : DD X ρ p0 (c1 + c2) (.IfExp t a b pos) P := by
  refine ⟨fun σ H n Q E hp hn q => .by (pe_ifExp pt_W pe_W pe_W) ?_⟩
  refine hc.run σ H n _ E hp (by omega) fun k H1 hk s1 hp1 => ?_
  have E1 := E.le (hp.le s1)
  cases k with
  | true => exact iteT ((ha hk).run σ H1 _ _ E1 hp1 (by omega) fun d v H2 hd s2 hp2 r => q d v H2 hd (s1.trans s2) (by rw [← Nat.add_assoc]; exact hp2) r)
  | false => exact iteF ((hb hk).run σ H1 _ _ E1 hp1 (by omega) fun d v H2 hd s2 hp2 r => q d v H2 hd (s1.trans s2) (by rw [← Nat.add_assoc]; exact hp2) r)
/-- xs.append(e), e drawn -/
theorem s_appendD {l : Addr} {ds : List D} {P : D → Prop} {o : Expr} {apos cpos : Pos} (E : Env ρ σ H) (hp : Pot p0 n H) (hn : n + c ≤ LIMP) (hl : LstAt H l ds) (hlp : l ≠ p0) (ho : ED X H ρ o (rf l).p) (he : DD X ρ p0 c e P) (hz : ds.length < 100000)
    (q : ∀ d H', P d → (∀ a o, a ≠ p0 → a ≠ l → H a = some o → H' a = some o) → Pot p0 (n + c) H' → LstAt H' l (ds ++ [d]) → Env ρ σ H' → WSs X rest D' σ H')
    (hbase : attributeBase o "append" X.env (eval o X.env) = eval o X.env := by rfl)
    (hfew : ((backTo cpos (starEach [e] X.env)).all (fun x => !x.1) && (backToKw cpos (keywordEach [] X.env)).all (fun x => x.1.isSome) && decide ([e].length + ([] : List Keyword).length + (if ([] : List Keyword).isEmpty then 0 else 1) < 30)) = true := by rfl)
    (hline : (apos.endLine == cpos.line) = true := by rfl) (hst : starEach [e] X.env = (false, eval e X.env) :: starEach [] X.env := by rfl) (hpl : (backTo cpos (starEach [] X.env)).any (·.1) = false := by rfl)
    (hs : swapsWith (.Call (.Attribute o "append" apos) [e] [] cpos) none pos.line X.env = pure false := by rfl) : WSs X (.Expr (.Call (.Attribute o "append" apos) [e] [] cpos) pos :: rest) D' σ H := by
  refine s_expr (.by (pe_bm PySem.F.plainAttrs_list PySem.F.slot_list_append PySem.F.type_list_append mt_append pe_W (pa_cons pe_W pa_nil hst) hbase hfew hline hst hpl) ?_) hs
  refine ho.run σ H _ E.en fun v H1 s1 ev => ?_
  obtain rfl : v = .ref l := ev
  obtain ⟨vs, h1, r1⟩ := hl.same s1
  refine ⟨Or.inl ⟨rfl, vs, SqL.of h1⟩, ?_⟩
  refine he.run σ H1 n _ (E.same s1) (hp.same s1) hn fun d x H2 hd s2 hp2 p2 => ?_
  obtain ⟨vs', h2, r2⟩ := (hl.same s1).draw (hp.same s1) s2 hlp
  have hz' : vs'.length < sizeLine := by rw [← r2.length]; exact Nat.lt_of_lt_of_le hz (by decide)
  refine ⟨l, vs', x, rfl, rfl, h2, hz', ?_⟩
  have le2 : Le H2 (upd H2 l (.lst (vs' ++ [x]))) := Le.upd h2 rfl
  exact q d _ hd (fun b o n1 n2 hb => by rw [upd_ne n2]; exact s2 _ _ n1 (s1 _ _ hb)) (hp2.but .upd hlp.symm) ⟨_, upd_same, (r2.append (.cons p2 .nil)).le le2⟩ (((E.same s1).le ((hp.same s1).le s2)).le le2)
end
/-! ### films of a law -/
def dTruth (x : (Int × Int) × Films) : D := .tup [dDot x.1, dFilm x.2]
def turnBy (f : Films) (b : Nat) : Films := f.drop b ++ f.take b
def truthsFrom : Nat → List Films → List ((Int × Int) × Films)
  | _, [] => []
  | i, f :: fs => ((List.range f.length).map fun b : Nat => (((i : Int), (b : Int)), turnBy f b)) ++ truthsFrom (i + 1) fs
def truthsOf (fs : List Films) : List ((Int × Int) × Films) := truthsFrom 0 fs
theorem truthsFrom_snoc : ∀ (fs : List Films) (f : Films) (i : Nat), truthsFrom i (fs ++ [f]) = truthsFrom i fs ++ ((List.range f.length).map fun b : Nat => (((((i + fs.length : Nat)) : Int), (b : Int)), turnBy f b))
  | [], f, i => by simp [truthsFrom]
  | g :: fs, f, i => by
    show _ ++ truthsFrom (i + 1) (fs ++ [f]) = (_ ++ truthsFrom (i + 1) fs) ++ _
    rw [truthsFrom_snoc fs f (i + 1), List.append_assoc]
    congr 3
    rw [List.length_cons]
    have : i + 1 + fs.length = i + (fs.length + 1) := by omega
    rw [this]
theorem truthsFrom_len : ∀ (fs : List Films) (i m : Nat), (∀ f ∈ fs, f.length ≤ m) → (truthsFrom i fs).length ≤ m * fs.length
  | [], _, _, _ => (Nat.zero_le _)
  | f :: fs, i, m, h => by
    have h1 := h f List.mem_cons_self
    have h2 := truthsFrom_len fs (i + 1) m fun g hg => h g (List.mem_cons_of_mem _ hg)
    show (_ ++ truthsFrom (i + 1) fs).length ≤ _
    rw [List.length_append, List.length_map, List.length_range, List.length_cons, Nat.mul_succ]; omega
section
variable {P : Program} {w : World}
variable {K : PySem.W.Frag} {mg : Str → Option Value} {base : Heap}
theorem ok_t_begun (T : Tx K mg) : DefOk P w K mg base 1 "_law_t_begun" (spF (fun z : Films × Nat => [dFilm z.1, .int z.2]) (fun z => z.1.length ≤ 1000) fun z => dFilm (turnBy z.1 z.2)) := by
  refine T.d__law_t_begun (spF_len fun _ => rfl) fun X vs H Q E ⟨f, cdv, A, outer, s, e⟩ G ⟨⟨fl, b⟩, r, h0, q⟩ => ?_
  subst e
  have h0 : fl.length ≤ 1000 := h0
  have E := env_r (N := N__law_t_begun) r
  refine s_ret E (ER.is (er_cat ?_ (er_slt (er_var 0 rfl) (od_some (er_var 1 rfl)) od_none) (er_slt (er_var 0 rfl) od_none (od_some (er_var 1 rfl)))) ?_) fun v H' s r => q v H' s r
  · rw [cutD_map, cutD_map, cutG_from, cutG_to, List.length_map, List.length_map, List.length_take, List.length_drop]; omega
  · rw [cutD_map, cutD_map, cutG_from, cutG_to, ← List.map_append]; rfl
structure FilmsOk (B : Boards) (fs : List Films) : Prop where
  h0 : 0 < fs.length
  h1 : fs.length ≤ 3
  ok : ∀ f ∈ fs, FilmOk B 4 f
def spTruths : Sp := fun vs H Q _ => ∃ (l : Addr) (fs : List Films), vs = [.ref l] ∧ LstAt H l (fs.map dFilm) ∧ fs.length ≤ 3 ∧ (∀ f ∈ fs, f.length ≤ 4) ∧ ∀ l' H', H l' = none → Same H H' → LstAt H' l' ((truthsOf fs).map dTruth) → Q (.ref l') H'
theorem ok_t_truths (T : Tx K mg) : DefOk P w K mg base 2 "_law_t_truths" spTruths := by
  refine T.d__law_t_truths (fun vs H Q E ⟨l, ws, ev, _⟩ => by subst ev; rfl) fun X vs H Q E ⟨f, cdv, A, outer, s, e⟩ G ⟨l, fs, ev, hl, h3, h4, q⟩ => ?_
  subst e ev
  have E := env_p (N := N__law_t_truths) (Ps' := [rf l]) (vs := [.ref l]) (H := H) (.cons rfl .nil)
  refine s_setD 1 G E ad_nil fun m σ1 H1 hm s1 hM E1 => ?_
  have hlm : l ≠ m := hl.ne hm
  refine s_forA G .never E1 (srcA_enum T.n_enumerate (ed_var 0 rfl) (hl.same s1)) fun H2 s2 E2 => ?_
  refine ⟨fun i σ' H' => (Same H H' ∧ Le H2 H' ∧ H' l = H2 l) ∧ LstAt H' m ((truthsFrom 0 (fs.take i)).map dTruth) ∧ Env [some (rf l), some (rf m), none, none, none] σ' H', ?_, ?_, ?_, ?_⟩
  · exact ⟨⟨s1.trans s2, Le.refl _, rfl⟩, hM.same s2, E2⟩
  · rintro i σ' H' ⟨h, _⟩; exact h.2
  · rintro i d v σ' H' H'' hd ⟨⟨sa, la, ea⟩, hL, E3⟩ s3 rd
    have hi : i < fs.length := by
      rcases Nat.lt_or_ge i fs.length with h | h
      · exact h
      · rw [List.getElem?_eq_none (by rw [enumD_len, List.length_map]; exact h)] at hd; cases hd
    have hfi : fs[i]? = some fs[i] := List.getElem?_eq_getElem hi
    have : d = .tup [.int (i : Nat), dFilm fs[i]] := by
      have h2 := enumD_get (ds := fs.map dFilm) (i := i) (d := dFilm fs[i]) (by rw [List.getElem?_map, hfi]; rfl)
      rw [h2] at hd; cases hd; rfl
    subst this
    have hf4 := h4 _ (List.getElem_mem hi)
    refine g_tup2 2 3 G rd fun u1 u2 ru1 ru2 => ?_
    have E4 := ((E3.same s3).set 2 (P := R (.int (i : Nat))) ru1).set 3 (P := R (dFilm fs[i])) ru2
    have hlen : ((fs[i].map dLit).length : Int).toNat = fs[i].length := by simp
    refine s_extend E4 (hL.same s3) (ed_var 1 rfl) (ed_lc (L := List.range fs[i].length) (enc := fun b : Nat => D.int b) (fun _ => true) (fun b : Nat => dTruth (((i : Int), (b : Int)), turnBy fs[i] b)) G [("_law_begin", 4)] (.is (src_range T.n_range (by simp; omega) (er_lenT T.n_len (er_var 3 rfl))) (by rw [hlen])) (blkOk_by (N := N__law_t_truths) (sc := defScope s_law_t_truths) (by decide +kernel)) (by rw [List.length_range]; omega) (fun s H0 C cl fp x hx => tg_name 4 G.nd)
      (fun s H0 C cl fp x hx => ts_nil) fun s H0 C cl fp x hx _ => er_t2 (er_t2 (er_var 2 rfl) (er_var 4 rfl)) (er_call (ok_t_begun T) (G.bk.mono (by decide)) (fs[i], x) (by show fs[i].length ≤ 1000; omega) (ad_cons (er_var 3 rfl) (ad_one (er_var 4 rfl))))) ?_ fun H5 s5 hL5 E5 => s_nil ?_
    · rw [List.length_map, filter_tt, List.length_map, List.length_range]
      have := truthsFrom_len (fs.take i) 0 4 fun f hf => h4 f (List.mem_of_mem_take hf)
      rw [List.length_take] at this
      omega
    · have hmH : H m = none := hm
      refine ⟨⟨?_, (la.trans (.of s3)).trans ((hL.same s3).le s5), ?_⟩, ?_, E5.fg (.k (.k (.d (.d (.k .nil)))))⟩
      · exact fun b o hb => s5 b o (fun e => by subst e; rw [hmH] at hb; cases hb) (s3 _ _ (sa _ _ hb))
      · obtain ⟨us, e, _⟩ := hl.same (s1.trans s2)
        rw [e] at ea ⊢
        exact s5 _ _ hlm (s3 _ _ ea)
      · rw [take_snoc hfi, truthsFrom_snoc, List.map_append]
        rw [filter_tt] at hL5
        have hit : (fs.take i).length = i := by rw [List.length_take]; omega
        rw [hit, Nat.zero_add, List.map_map]
        exact hL5
  · rintro σ' H' ⟨⟨sa, la, ea⟩, hL, E3⟩
    rw [enumD_len, List.length_map, List.take_length] at hL
    refine s_ret E3 (ed_var 1 rfl) fun v H4 s4 ev => ?_
    obtain rfl : v = .ref m := ev
    exact q m H4 hm (sa.trans s4) (hL.same s4)
def spTFilms : Sp := fun vs H Q _ => ∃ (p : Addr) (n : Nat) (B : Boards) (v : V), vs = [.ref p, v, .int 3] ∧ Rep H (dRows B) v ∧ Pot p n H ∧ n + 2000 ≤ LIMP ∧ GoodB B ∧
  ∀ fs l H', FilmsOk B fs → SameBut p H H' → Pot p (n + 2000) H' → LstAt H' l (fs.map dFilm) → Q (.ref l) H'
theorem films_ne {fs : List Films} (h : 0 < fs.length) (h3 : fs.length ≤ 1000) : 0 < (fs.map dFilm).length ∧ (fs.map dFilm).length < 1000000 ∧ ((fs.map dFilm).length ≠ 3 ∨ ∀ d ∈ fs.map dFilm, d.isTup = true) :=
  ⟨by rw [List.length_map]; exact h, by rw [List.length_map]; omega, .inr fun d hd => by obtain ⟨f, _, rfl⟩ := List.mem_map.mp hd; rfl⟩
theorem ok_t_films (T : Tx K mg) : DefOk P w K mg base 5 "_law_t_films" spTFilms := by
  refine T.d__law_t_films (fun vs H Q E ⟨p, n, B, v, ev, _⟩ => by subst ev; rfl) fun X vs H Q E ⟨f, cdv, A, outer, s, e⟩ G ⟨p, n, B, v, ev, rB, hp, hn, hB, q⟩ => ?_
  subst e ev
  have E := env_p (N := N__law_t_films) (Ps' := [rf p, R (dRows B), R (.int 3)]) (vs := [.ref p, v, .int 3]) (H := H) (.cons rfl (.cons rB (.cons (.int 3) .nil)))
  have hn' : n + 2000 ≤ 1000000 := hn
  refine s_mid 3 G (fun v H1 => ∃ l f, v = .ref l ∧ H l = none ∧ SameBut p H H1 ∧ Pot p (n + 420) H1 ∧ FilmOk B 4 f ∧ LstAt H1 l ([f].map dFilm)) ?_ fun v H1 ⟨l, f0, ev, hl, sb1, hp1, hf0, hL1⟩ => ?_
  · refine .by (pe_lst (pa_cons pe_W pa_nil)) ?_
    refine (dd_call (c' := 0) (P' := fun d => ∃ f, FilmOk B 4 f ∧ d = dFilm f) (ok_film T) G (fun _ => ed_var 0 rfl) (da_cons (dd_er fun _ => er_var 1 rfl) (da_cons (dd_er fun _ => er_int) da_nil)) (fun l ⟨_, _, e1, e2, _, _, e3, e4, e5⟩ => by subst e1 e3 e5 e2 e4; exact ⟨(B, 4), rfl, ⟨hB, Nat.succ_pos 3, Nat.le_refl 4⟩, fun d h => h⟩)).run _ _ n _ E hp (by show n + (0 + (0 + 0) + 420) ≤ 1000000; omega) fun d v H1 ⟨f0, hf0, ed⟩ s1 hp1 rv => ⟨Nat.le_of_lt (small1000 (by show 1 ≤ 1000; decide)), fun l hl => ?_⟩
    subst ed
    exact ⟨l, f0, rfl, s1.free hp1 hl, s1.trans (.of (same_upd hl)), (hp1.same (same_upd hl)).mono (by omega), hf0, ⟨[v], upd_same, .cons (rv.le (.of (same_upd hl))) .nil⟩⟩
  · subst ev
    have hlp : l ≠ p := pot_ne_tup hp1 hL1 (by simp [D.isTup, dFilm])
    have E1 := (E.le (hp.le sb1)).set 3 (P := rf l) rfl
    refine s_forRD (c := 1) (n := n + 420) (lo := 0) (hi := 2) G .never T.n_range (by decide) (by decide) E1 hp1 (by show n + 420 + 1 ≤ 1000000; omega) ((dd_take (ok_take T) G (by decide) (fun _ => ed_var 0 rfl) (fun _ => er_var 2 rfl) ⟨by decide, by decide⟩).imp fun d ⟨i, e, i0, i1⟩ => ⟨i, e, i0, by omega⟩) fun m H2 m0 m2 sb2 hp2 E2 => ?_
    refine ⟨fun i σ' H' => ∃ (fs : List Films) (n' : Nat), fs.length = i + 1 ∧ (∀ f ∈ fs, FilmOk B 4 f) ∧ SameBut p H H' ∧ Pot p n' H' ∧ n' ≤ n + 421 + 500 * i ∧ LstAt H' l (fs.map dFilm) ∧ Env [some (rf p), some (R (dRows B)), some (R (.int 3)), some (rf l), none, none] σ' H', ?_, ?_, ?_⟩
    · exact ⟨[f0], n + 421, rfl, fun f hf => by rw [List.mem_singleton.mp hf]; exact hf0, sb1.trans sb2, hp2, by omega, hL1.draw hp1 sb2 hlp, E2⟩
    · rintro i σ' H' hi ⟨fs, n', hfs, hok, sb, hp', hn2, hL, E3⟩
      refine g_name 4 G ?_
      have E4 := E3.set 4 (P := R _) (.int (i : Int))
      refine s_mid 5 G (fun v H5 => ∃ f, FilmOk B 4 f ∧ Rep H5 (dFilm f) v ∧ SameBut p H' H5 ∧ Pot p (n' + 1) H5) ?_ fun v H5 ⟨f, hf, rv, sb5, hp5⟩ => ?_
      · refine we_of (ok_of T) G (by decide) E4 hp' (by show n' + 1 ≤ 1000000; omega) (fun _ => ed_var 0 rfl) (ed_here hL (ed_var 3 rfl)) (films_ne (by omega) (by omega)) fun d v H5 hd s5 hp5 rv => ?_
        obtain ⟨f, hf, rfl⟩ := List.mem_map.mp hd
        exact ⟨f, hok f hf, rv, s5, hp5⟩
      · have E5 := (E4.le (hp'.le sb5)).set 5 (P := R (dFilm f)) rv
        have hL5 := hL.draw hp' sb5 hlp
        refine s_appendD (c := 421) (P := fun d => ∃ f, FilmOk B 4 f ∧ d = dFilm f) E5 hp5 (by show n' + 1 + 421 ≤ 1000000; omega) hL5 hlp (ed_var 3 rfl) (dd_ifD (c1 := 1) (c2 := 420) (dt_gtI (dd_take (ok_take T) G (by decide) (fun _ => ed_var 0 rfl) (fun _ => er_int) ⟨by decide, by decide⟩) (fun d ⟨i, e, _⟩ => ⟨i, e⟩) fun _ => er_int)
          (fun _ => (dd_call (c' := 0) (ok_near_film T) G (fun _ => ed_var 0 rfl) (da_cons (dd_er fun _ => er_var 1 rfl) (da_cons (dd_er fun _ => er_var 5 rfl) da_nil)) (fun l ⟨_, _, e1, e2, _, _, e3, e4, e5⟩ => by subst e1 e3 e5 e2 e4; exact ⟨(B, f), rfl, ⟨hB, hf⟩, fun d h => h⟩)).to (by decide) fun _ h => h)
          fun _ => (dd_call (c' := 0) (ok_film T) G (fun _ => ed_var 0 rfl) (da_cons (dd_er fun _ => er_var 1 rfl) (da_cons (dd_er fun _ => er_int) da_nil)) (fun l ⟨_, _, e1, e2, _, _, e3, e4, e5⟩ => by subst e1 e3 e5 e2 e4; exact ⟨(B, 4), rfl, ⟨hB, Nat.succ_pos 3, Nat.le_refl 4⟩, fun d h => h⟩)).to (by decide) fun _ h => h) (by rw [List.length_map]; omega) fun d H6 ⟨g, hg, ed⟩ oth hp6 hL6 E6 => s_nil ?_
        subst ed
        refine ⟨fs ++ [g], n' + 1 + 421, by simp [hfs], fun x hx => ?_, fun a o ha hao => ?_, hp6, by omega, by rw [List.map_append]; exact hL6, E6.fg (.k (.k (.k (.k (.d (.d .nil))))))⟩
        · rcases List.mem_append.mp hx with h | h
          · exact hok x h
          · rw [List.mem_singleton.mp h]; exact hg
        · exact oth a o ha (fun e => by subst e; rw [hl] at hao; cases hao) (sb5 a o ha (sb a o ha hao))
    · rintro σ' H' ⟨fs, n', hfs, hok, sb, hp', hn2, hL, E3⟩
      refine s_ret E3 (ed_var 3 rfl) fun v H4 s4 ev => ?_
      obtain rfl : v = .ref l := ev
      exact q fs l H4 ⟨by omega, by omega, hok⟩ (sb.trans (.of s4)) ((hp'.same s4).mono (by omega)) (hL.same s4)
end
end K31
namespace K31
open L2 PySem PySem.Spec PyProof.Rows
/-! ### dicts whose keys are tuples -/
structure KeyE {κ : Type} (kd : κ → D) (ke : κ → List Key) : Prop where
  inj : ∀ {x y : κ}, ke x = ke y → x = y
  rep : ∀ {H : Hp} {x : κ} {v : V}, Rep H (kd x) v → ∃ b, v = .ref b ∧ H b = some (.tup ((ke x).map kV))
def keDot (p : Dot) : List Key := [.inl p.1, .inl p.2]
def keWire (p : Wire) : List Key := [.inr p.1, .inl p.2]
theorem keyE_dot : KeyE dDot keDot where
  inj {x y} e := by
    have h1 : x.1 = y.1 := Sum.inl.inj (List.cons.inj e).1
    have h2 : x.2 = y.2 := Sum.inl.inj (List.cons.inj (List.cons.inj e).2).1
    exact Prod.ext h1 h2
  rep r := by
    cases r with
    | tup h r1 =>
      obtain ⟨v, u, rfl, ra, rb⟩ := r1.two
      cases ra; cases rb
      exact ⟨_, rfl, h⟩
theorem keyE_wire : KeyE dWire keWire where
  inj {x y} e := by
    have h1 : x.1 = y.1 := Sum.inr.inj (List.cons.inj e).1
    have h2 : x.2 = y.2 := Sum.inl.inj (List.cons.inj (List.cons.inj e).2).1
    exact Prod.ext h1 h2
  rep r := by
    cases r with
    | tup h r1 =>
      obtain ⟨v, u, rfl, ra, rb⟩ := r1.two
      cases ra; cases rb
      exact ⟨_, rfl, h⟩
section
variable {κ α : Type} [DecidableEq κ]
def getM (m : List (κ × α)) (k : κ) : Option α := (m.find? fun e => decide (e.1 = k)).map (·.2)
def putM (m : List (κ × α)) (k : κ) (v : α) : List (κ × α) := if (m.any fun e => decide (e.1 = k)) = true then m.map (fun e => if e.1 = k then (e.1, v) else e) else m ++ [(k, v)]
end
/-- the dict at a -/
def DictT {κ : Type} (ke : κ → List Key) (H : Hp) (a : Addr) (m : List (κ × D)) : Prop := ∃ vs : List V, H a = some (.dT ((m.map fun e => ke e.1).zip vs)) ∧ RepL H (m.map (·.2)) vs
def DictR {κ : Type} (ke : κ → List Key) (H : Hp) (a : Addr) (m : List (κ × D)) : Prop := ∃ vs : List V, Rd H a (.dT ((m.map fun e => ke e.1).zip vs)) ∧ RepL H (m.map (·.2)) vs
section
variable {κ : Type} [DecidableEq κ] {ke : κ → List Key} {kd : κ → D} {H H' : Hp} {a : Addr} {m : List (κ × D)}
theorem DictT.r (h : DictT ke H a m) : DictR ke H a m := let ⟨vs, e, r⟩ := h; ⟨vs, .inl e, r⟩
theorem DictT.same (h : DictT ke H a m) (s : Same H H') : DictT ke H' a m := let ⟨vs, e, r⟩ := h; ⟨vs, s _ _ e, r.le (.of s)⟩
theorem DictR.same (h : DictR ke H a m) (s : Same H H') : DictR ke H' a m := let ⟨vs, e, r⟩ := h; ⟨vs, e.elim (fun e => .inl (s _ _ e)) (fun ⟨o, e⟩ => .inr ⟨o, s _ _ e⟩), r.le (.of s)⟩
theorem get_zip (K : KeyE kd ke) (k : κ) : ∀ {m : List (κ × D)} {vs : List V}, RepL H (m.map (·.2)) vs → (∀ d, getM m k = some d → ∃ v, valV ((m.map fun e => ke e.1).zip vs) (ke k) = some v ∧ Rep H d v) ∧ (valV ((m.map fun e => ke e.1).zip vs) (ke k)).isSome = (getM m k).isSome
  | [], _, .nil => ⟨fun d e => (by cases e), rfl⟩
  | (k', d) :: m, _, .cons (v := v) (vs := vs) r t => by
    by_cases h : k' = k
    · subst h
      have e1 : getM ((k', d) :: m) k' = some d := by simp [getM]
      have e2 : valV ((((k', d) :: m).map fun e => ke e.1).zip (v :: vs)) (ke k') = some v := valV_pos rfl
      rw [e1, e2]
      exact ⟨fun d' e => by cases e; exact ⟨v, rfl, r⟩, rfl⟩
    · have e1 : getM ((k', d) :: m) k = getM m k := by simp [getM, h]
      have e2 : valV ((((k', d) :: m).map fun e => ke e.1).zip (v :: vs)) (ke k) = valV ((m.map fun e => ke e.1).zip vs) (ke k) := valV_neg fun e => h (K.inj e)
      rw [e1, e2]
      exact get_zip K k t
theorem DictR.get (h : DictR ke H a m) (K : KeyE kd ke) {x : κ} {y : V} (r : Rep H (kd x) y) : ∃ o, DGet H a y o ∧ o.isSome = (getM m x).isSome ∧ ∀ d, getM m x = some d → ∃ v, o = some v ∧ Rep H d v := by
  obtain ⟨vs, e, t⟩ := h
  obtain ⟨b, rfl, hb⟩ := K.rep r
  obtain ⟨g1, g2⟩ := get_zip (H := H) K x t
  exact ⟨_, .inr ⟨_, _, b, e, rfl, hb, rfl⟩, g2, g1⟩
theorem put_zip (K : KeyE kd ke) (k : κ) {d : D} {v : V} (r : Rep H d v) {m : List (κ × D)} {vs : List V} (t : RepL H (m.map (·.2)) vs) : ∃ us, putK ((m.map fun e => ke e.1).zip vs) (ke k) v = ((putM m k d).map fun e => ke e.1).zip us ∧ RepL H ((putM m k d).map (·.2)) us := by
  have any_eq : ∀ {m : List (κ × D)} {vs : List V}, RepL H (m.map (·.2)) vs → (((m.map fun e => ke e.1).zip vs).any fun kv => decide (kv.1 = ke k)) = m.any fun e => decide (e.1 = k) := by
    intro m
    induction m with
    | nil => intro vs t; cases t; rfl
    | cons e m ih =>
      intro vs t
      cases t with
      | cons r1 t1 =>
        show (decide (ke e.1 = ke k) || _) = (decide (e.1 = k) || _)
        rw [← ih t1]
        congr 1
        exact bool_iff (by rw [decide_eq_true_eq, decide_eq_true_eq]; exact ⟨K.inj, fun h => by rw [h]⟩)
  unfold putK putM
  rw [any_eq t]
  split
  · have : ∀ {m : List (κ × D)} {vs : List V}, RepL H (m.map (·.2)) vs → ∃ us, ((m.map fun e => ke e.1).zip vs).map (fun kv => if kv.1 = ke k then (kv.1, v) else kv) = ((m.map fun e => if e.1 = k then (e.1, d) else e).map fun e => ke e.1).zip us ∧ RepL H ((m.map fun e => if e.1 = k then (e.1, d) else e).map (·.2)) us := by
      intro m
      induction m with
      | nil => intro vs t; cases t; exact ⟨[], rfl, .nil⟩
      | cons e m ih =>
        intro vs t
        cases t with
        | @cons d1 v1 ds1 vs1 r1 t1 =>
          obtain ⟨us, h1, h2⟩ := ih t1
          by_cases h : e.1 = k
          · refine ⟨v :: us, ?_, ?_⟩
            · simp only [List.map_cons, List.zip_cons_cons, if_pos h, if_pos (congrArg ke h)]
              rw [h1]
            · simp only [List.map_cons, if_pos h]
              exact .cons r h2
          · refine ⟨v1 :: us, ?_, ?_⟩
            · simp only [List.map_cons, List.zip_cons_cons, if_neg h, if_neg fun z => h (K.inj z)]
              rw [h1]
            · simp only [List.map_cons, if_neg h]
              exact .cons r1 h2
    exact this t
  · refine ⟨vs ++ [v], ?_, ?_⟩
    · rw [List.map_append, List.zip_append (by rw [List.length_map]; have := t.length; rw [List.length_map] at this; exact this)]
      rfl
    · rw [List.map_append]
      exact t.append (.cons r .nil)
theorem putM_len (m : List (κ × D)) (k : κ) (d : D) : (putM m k d).length ≤ m.length + 1 := by
  unfold putM
  split
  · rw [List.length_map]; omega
  · rw [List.length_append]; exact Nat.le_refl _
theorem getM_put {α : Type} (m : List (κ × α)) (k j : κ) (d : α) : getM (putM m k d) j = if j = k then some d else getM m j := by
  have any_get : ∀ m : List (κ × α), (m.any fun e => decide (e.1 = k)) = (getM m k).isSome := by
    intro m
    induction m with
    | nil => rfl
    | cons e m ih =>
      unfold getM at *
      by_cases h : e.1 = k
      · simp [h]
      · simp only [List.any_cons, decide_eq_false h, Bool.false_or, List.find?_cons]
        exact ih
  unfold putM
  split
  · rename_i hk
    have hk' : (getM m k).isSome = true := by rw [← any_get]; exact hk
    clear hk
    have : ∀ m : List (κ × α), getM (m.map fun e => if e.1 = k then (e.1, d) else e) j = if j = k then (if (getM m k).isSome then some d else none) else getM m j := by
      intro m
      induction m with
      | nil => simp [getM]
      | cons e m ih =>
        unfold getM at *
        rw [List.map_cons, List.find?_cons]
        by_cases h : e.1 = k
        · rw [if_pos h]
          by_cases hj : j = k
          · subst hj; simp [h]
          · have h1 : ¬ e.1 = j := fun z => hj (z.symm.trans h)
            simp only [decide_eq_false h1, List.find?_cons]
            rw [ih, if_neg hj, if_neg hj]
        · rw [if_neg h]
          by_cases hj : j = k
          · subst hj
            simp only [decide_eq_false h, List.find?_cons]
            rw [ih]
            simp
          · rw [if_neg hj]
            by_cases he : e.1 = j
            · simp [he]
            · simp only [decide_eq_false he, List.find?_cons]
              rw [ih, if_neg hj]
    rw [this m, hk']
    rfl
  · rename_i hk
    have hk' : getM m k = none := by
      have := any_get m
      rw [Bool.not_eq_true] at hk
      rw [hk] at this
      cases h : getM m k with
      | none => rfl
      | some x => rw [h] at this; cases this
    unfold getM at *
    rw [List.find?_append]
    by_cases hj : j = k
    · subst hj
      rw [if_pos rfl]
      cases h : m.find? (fun e => decide (e.1 = j)) with
      | none => simp [h]
      | some x => rw [h] at hk'; cases hk'
    · rw [if_neg hj]
      cases h : m.find? (fun e => decide (e.1 = j)) with
      | none =>
        have : ¬ k = j := fun z => hj z.symm
        simp [this]
      | some x => rfl
end
section
variable {X : Cx} {Hz : Hp} {ρ : Rho} {e a b o i : Expr} {es : List Expr} {pos p pp pos2 tpos : Pos} {k n c : Nat} {σ : L2.St} {H : Hp} {D' : Ends} {rest body u v : List Stmt} {κ : Type} [DecidableEq κ] {ke : κ → List Key} {kd : κ → D} {m : List (κ × D)} {l : Addr}
theorem er_dget {x : κ} {d : D} (K : KeyE kd ke) (G : GX X k) (hm : DictR ke Hz l m) (ha : ED X Hz ρ a (rf l).p) (hb : ER X Hz ρ b (kd x)) (hx : getM m x = some d) (hs : NoSl b := by exact fun _ _ => rfl) : ER X Hz ρ (.Subscript a b pos) d := by
  refine .by (pe_dget G.hu pe_W pe_W hs) fun σ H Q E q => ?_
  refine ha.run σ H _ E fun v H1 s1 ev => ?_
  obtain rfl : v = .ref l := ev
  refine hb.run σ H1 _ (E.same s1) fun y H2 s2 ry => ?_
  obtain ⟨o, g, _, g2⟩ := (hm.same ((E.s0.trans s1).trans s2)).get K ry
  obtain ⟨v, rfl, rv⟩ := g2 d hx
  exact ⟨l, v, rfl, g, q v H2 (s1.trans s2) rv⟩
theorem er_din {x : κ} (K : KeyE kd ke) (G : GX X k) (hm : DictR ke Hz l m) (hb : ED X Hz ρ b (rf l).p) (ha : ER X Hz ρ a (kd x)) (hh : behindInMarks .In b = false := by rfl) : ER X Hz ρ (.Compare a [.In] [b] pos) (.bl (getM m x).isSome) := by
  refine .by (pe_cmp (pc_din G.hu pe_W pe_W) hh) fun σ H Q E q => ?_
  refine ha.run σ H _ E fun y H1 s1 ry => ?_
  refine hb.run σ H1 _ (E.same s1) fun v H2 s2 ev => ?_
  obtain rfl : v = .ref l := ev
  obtain ⟨o, g, g1, _⟩ := (hm.same ((E.s0.trans s1).trans s2)).get K (ry.le (.of s2))
  exact ⟨l, o, rfl, g, by rw [g1]; exact q _ H2 (s1.trans s2) (.bl _)⟩
theorem er_dnin {x : κ} (K : KeyE kd ke) (G : GX X k) (hm : DictR ke Hz l m) (hb : ED X Hz ρ b (rf l).p) (ha : ER X Hz ρ a (kd x)) (hh : behindInMarks .NotIn b = false := by rfl) : ER X Hz ρ (.Compare a [.NotIn] [b] pos) (.bl (!(getM m x).isSome)) := by
  refine .by (pe_cmp (pc_dnotin G.hu pe_W pe_W) hh) fun σ H Q E q => ?_
  refine ha.run σ H _ E fun y H1 s1 ry => ?_
  refine hb.run σ H1 _ (E.same s1) fun v H2 s2 ev => ?_
  obtain rfl : v = .ref l := ev
  obtain ⟨o, g, g1, _⟩ := (hm.same ((E.s0.trans s1).trans s2)).get K (ry.le (.of s2))
  exact ⟨l, o, rfl, g, by rw [g1]; exact q _ H2 (s1.trans s2) (.bl _)⟩
theorem td_din {x : κ} (K : KeyE kd ke) (G : GX X k) (hm : DictR ke Hz l m) (hb : ED X Hz ρ b (rf l).p) (ha : ER X Hz ρ a (kd x)) (hh : behindInMarks .In b = false := by rfl) : TD X Hz ρ (.Compare a [.In] [b] pos) (getM m x).isSome := by
  refine .by (pt_cmp (pc_din G.hu pe_W pe_W) hh) fun σ H Q E q => ?_
  refine ha.run σ H _ E fun y H1 s1 ry => ?_
  refine hb.run σ H1 _ (E.same s1) fun v H2 s2 ev => ?_
  obtain rfl : v = .ref l := ev
  obtain ⟨o, g, g1, _⟩ := (hm.same ((E.s0.trans s1).trans s2)).get K (ry.le (.of s2))
  exact ⟨l, o, rfl, g, ⟨_, rfl, by rw [g1]; exact q H2 (s1.trans s2)⟩⟩
theorem td_dnin {x : κ} (K : KeyE kd ke) (G : GX X k) (hm : DictR ke Hz l m) (hb : ED X Hz ρ b (rf l).p) (ha : ER X Hz ρ a (kd x)) (hh : behindInMarks .NotIn b = false := by rfl) : TD X Hz ρ (.Compare a [.NotIn] [b] pos) (!(getM m x).isSome) := by
  refine .by (pt_cmp (pc_dnotin G.hu pe_W pe_W) hh) fun σ H Q E q => ?_
  refine ha.run σ H _ E fun y H1 s1 ry => ?_
  refine hb.run σ H1 _ (E.same s1) fun v H2 s2 ev => ?_
  obtain rfl : v = .ref l := ev
  obtain ⟨o, g, g1, _⟩ := (hm.same ((E.s0.trans s1).trans s2)).get K (ry.le (.of s2))
  exact ⟨l, o, rfl, g, ⟨_, rfl, by rw [g1]; exact q H2 (s1.trans s2)⟩⟩
/-- d[k] = v -/
theorem s_dput {x : κ} {d : D} {pos' : Pos} (K : KeyE kd ke) (G : GX X k) (E : Env ρ σ H) (hm : DictT ke H l m) (hz : m.length < 100000) (ha : ED X H ρ a (rf l).p) (hb : ER X H ρ b (kd x)) (hv : ER X H ρ e d)
    (q : ∀ H', SameBut l H H' → DictT ke H' l (putM m x d) → Env ρ σ H' → WSs X rest D' σ H') (hs : swapsWith e (some (.Subscript a b pos')) pos.line X.env = pure false := by rfl) : WSs X (.Assign [.Subscript a b pos'] e pos :: rest) D' σ H := by
  refine s_cons (.by (ps_dput G.hu pe_W pe_W pe_W hs) ?_)
  refine hv.run σ H _ E.en fun w H1 s1 rw' => ?_
  refine ha.run σ H1 _ (E.en.same s1) fun y H2 s2 ev => ?_
  obtain rfl : y = .ref l := ev
  refine hb.run σ H2 _ (E.en.same (s1.trans s2)) fun y H3 s3 ry => ?_
  obtain ⟨vs, hl, t⟩ := hm.same ((s1.trans s2).trans s3)
  obtain ⟨bb, rfl, hbb⟩ := K.rep ry
  obtain ⟨us, e1, e2⟩ := put_zip (H := H3) K x (rw'.le (.of (s2.trans s3))) t
  have hlen : ((m.map fun e => ke e.1).zip vs).length < sizeLine := by
    have := t.length
    rw [List.length_map] at this
    rw [List.length_zip, List.length_map, ← this, Nat.min_self]
    exact Nat.lt_of_lt_of_le hz (by decide)
  have le3 : Le H3 (upd H3 l (.dT (putK ((m.map fun e => ke e.1).zip vs) (ke x) w))) := Le.upd hl rfl
  refine ⟨l, _, rfl, .inr ⟨_, _, bb, hl, rfl, hbb, hlen, rfl⟩, ?_⟩
  refine q _ ((SameBut.of ((s1.trans s2).trans s3)).trans .upd) ?_ ((E.same ((s1.trans s2).trans s3)).le le3)
  rw [e1] at le3 ⊢
  exact ⟨us, upd_same, e2.le le3⟩
end
end K31
namespace K31
open L2 PySem PySem.Spec PyProof.Rows
/-! ### typed dicts -/
section
variable {κ α : Type} [DecidableEq κ]
def mapM (en : α → D) (m : List (κ × α)) : List (κ × D) := m.map fun e => (e.1, en e.2)
theorem getM_map (en : α → D) (k : κ) : ∀ m : List (κ × α), getM (mapM en m) k = (getM m k).map en
  | [] => rfl
  | e :: m => by
    have ih := getM_map en k m
    unfold getM mapM at *
    rw [List.map_cons, List.find?_cons, List.find?_cons]
    by_cases h : e.1 = k
    · simp [h]
    · simp only [decide_eq_false h]; exact ih
theorem putM_map (en : α → D) (k : κ) (v : α) (m : List (κ × α)) : putM (mapM en m) k (en v) = mapM en (putM m k v) := by
  unfold putM mapM
  rw [List.any_map]
  show (if (m.any fun e => decide (e.1 = k)) = true then _ else _) = _
  split
  · rw [List.map_map, List.map_map]
    refine List.map_congr_left fun e _ => ?_
    show (if e.1 = k then (e.1, en v) else (e.1, en e.2)) = _
    by_cases h : e.1 = k
    · simp [h]
    · simp [h]
  · rw [List.map_append]; rfl
end
section
variable {X : Cx} {Hz : Hp} {ρ : Rho} {a b : Expr} {pos : Pos}
/-- xs[i] of a list -/
theorem el_ix {ds : List D} {i : Int} {d : D} (ha : ED X Hz ρ a (Lst ds)) (hb : ER X Hz ρ b (.int i)) (h : atI ds i = some d) (hs : PlainIx b := by exact fun _ _ => rfl) : ER X Hz ρ (.Subscript a b pos) d := by
  refine .by (pe_ix ix_list pe_W pe_W hs) fun σ H Q E q => ?_
  refine ha.run σ H _ E fun x H1 s1 p1 => ?_
  refine hb.run σ H1 _ (E.same s1) fun y H2 s2 p2 => ?_
  obtain ⟨l, vs, rfl, h1, r⟩ := stb_Lst.st s2 p1
  cases p2
  obtain ⟨v, hv, rv⟩ := atI_map r.length (fun i x e => r.get e) h
  exact ⟨_, _, i, v, rfl, rfl, SqL.of h1, hv, q v H2 (s1.trans s2) rv⟩
end
/-! ### what the law's plain functions compute -/
def missOf (f : Films) (s : Seen) : List (Int × Dot) := s.flatMap fun x => ((litAt f x.1).filter fun d => !decide (d ∈ x.2)).map fun d => (x.1, d)
def strayB (f : Films) (s : Seen) : Bool := s.any fun x => x.2.any fun d => !decide (d ∈ litAt f x.1)
def lastPut (m : List (Wire × Int)) (t : Int) (d : Dot) : List (Wire × Int) := putM (putM m (sRow, d.1) t) (sCol, d.2) t
def lastIn (m : List (Wire × Int)) (x : Int × List Dot) : List (Wire × Int) := x.2.foldl (fun m d => lastPut m x.1 d) m
def lastOf (s : Seen) : List (Wire × Int) := s.foldl lastIn []
def mayD (m : List (Wire × Int)) (fades : Bool) (x : Wire) (t : Int) : Bool := match getM m x with
  | none => true
  | some i => fades && decide (i < t)
def edgeAt (m : List (Wire × Int)) (fades : Bool) (x : Int × Dot) : Edge := (if mayD m fades (sRow, x.2.1) x.1 then some x.2.1 else none, if mayD m fades (sCol, x.2.2) x.1 then some x.2.2 else none)
def dedE (l : List Edge) : List Edge := l.foldl (fun acc e => if e ∈ acc then acc else acc ++ [e]) []
def demandsOf (f : Films) (s : Seen) (fades : Bool) : Option (List Edge) :=
  if strayB f s then none else
    let es := (missOf f s).map (edgeAt (lastOf s) fades)
    if (none, none) ∈ es then none else some (dedE es)
def dMiss (x : Int × Dot) : D := .tup [.int x.1, dDot x.2]
theorem foldl_take {α β : Type} (f : β → α → β) (b : β) {l : List α} {i : Nat} {x : α} (h : l[i]? = some x) : (l.take (i + 1)).foldl f b = f ((l.take i).foldl f b) x := by
  rw [take_snoc h, List.foldl_append]; rfl
theorem lt_of_get {α : Type} {l : List α} {i : Nat} {x : α} (h : l[i]? = some x) : i < l.length := (List.getElem?_eq_some_iff.mp h).1
theorem get_map {α β : Type} {f : α → β} {l : List α} {i : Nat} {y : β} (h : (l.map f)[i]? = some y) : ∃ x, l[i]? = some x ∧ y = f x := by
  rw [List.getElem?_map] at h
  cases e : l[i]? with
  | none => (rw [e] at h; cases h)
  | some x => rw [e] at h; exact ⟨x, rfl, (Option.some.inj h).symm⟩
section
variable {P : Program} {w : World}
variable {K : PySem.W.Frag} {mg : Str → Option Value} {base : Heap}
/-- a film and what was seen, as the plain functions take them -/
structure Fine (f : Films) (s : Seen) : Prop where
  f0 : 0 < f.length
  lf : ∀ l ∈ f, l.length ≤ 100
  s1 : s.length ≤ 12
  ls : ∀ x ∈ s, x.2.length ≤ 100
theorem miss_len {f : Films} {s : Seen} (h0 : 0 < f.length) (hf : ∀ l ∈ f, l.length ≤ 100) : (missOf f s).length ≤ 100 * s.length := by
  induction s with
  | nil => exact Nat.zero_le _
  | cons x s ih =>
    unfold missOf at *
    rw [List.flatMap_cons, List.length_append, List.length_map, List.length_cons]
    have h1 := List.length_filter_le (fun d => !decide (d ∈ x.2)) (litAt f x.1)
    have h2 := hf _ (litAt_mem x.1 h0)
    omega
theorem missOf_snoc (f : Films) (s : Seen) (x : Int × List Dot) : missOf f (s ++ [x]) = missOf f s ++ ((litAt f x.1).filter fun d => !decide (d ∈ x.2)).map fun d => (x.1, d) := by
  unfold missOf
  rw [List.flatMap_append, List.flatMap_singleton]
theorem ok_missing (T : Tx K mg) : DefOk P w K mg base 2 "_law_missing" (fun vs H Q _ => ∃ f s, RepL H [dFilm f, dSeen s] vs ∧ Fine f s ∧ ∀ l' H', H l' = none → Same H H' → LstAt H' l' ((missOf f s).map dMiss) → Q (.ref l') H') := by
  refine T.d__law_missing (fun vs H Q E ⟨f, s, r, _⟩ => by have := r.length; simpa using this.symm) fun X vs H Q E ⟨f, cdv, A, outer, s, e⟩ G ⟨fl, se, r, hF, q⟩ => ?_
  subst e
  have E := env_r (N := N__law_missing) r
  refine s_setD 2 G E ad_nil fun m σ1 H1 hm s1 hM E1 => ?_
  refine s_forS G .never E1 (srcT_tup (er_var 1 rfl)) fun H2 s2 E2 => ?_
  refine ⟨fun i σ' H' => Same H H' ∧ Le H2 H' ∧ LstAt H' m ((missOf fl (se.take i)).map dMiss) ∧ Env [some (R (dFilm fl)), some (R (dSeen se)), some (rf m), none, none, none] σ' H', ?_, ?_, ?_, ?_⟩
  · exact ⟨s1.trans s2, Le.refl _, hM.same s2, E2⟩
  · rintro i σ' H' ⟨_, h, _⟩; exact h
  · rintro i d v σ' H' H'' hd ⟨sa, la, hL, E3⟩ s3 rd
    obtain ⟨x, hx, rfl⟩ := get_map hd
    have hxm : x ∈ se := List.mem_of_getElem? hx
    refine g_tup2 3 4 G rd fun u1 u2 ru1 ru2 => ?_
    have E4 := ((E3.same s3).set 3 (P := R (.int x.1)) ru1).set 4 (P := R (dLit x.2)) ru2
    have hlf := hF.lf _ (litAt_mem x.1 hF.f0)
    refine s_extend E4 (hL.same s3) (ed_var 2 rfl) (ed_lc (L := litAt fl x.1) (enc := dDot) (fun y => !decide (y ∈ x.2)) (fun y => dMiss (x.1, y)) G [("_law_dot", 5)] (src_tup (er_call (ok_lit_at T) G (fl, x.1) hF.f0 (ad_cons (er_var 0 rfl) (ad_one (er_var 3 rfl))))) (blkOk_by (N := N__law_missing) (sc := defScope s_law_missing) (by decide +kernel)) (by omega) (fun s H0 C cl fp x hx => tg_name 5 G.nd)
      (fun s H0 C cl fp y hy => ts_one (td_ninE enc_dot (by decide) G.bk (er_var 5 rfl) (er_var 4 rfl))) fun s H0 C cl fp y hy _ => er_t2 (er_var 3 rfl) (er_var 5 rfl)) ?_ fun H5 s5 hL5 E5 => s_nil ?_
    · rw [List.length_map, List.length_map]
      have h1 := List.length_filter_le (fun d => !decide (d ∈ x.2)) (litAt fl x.1)
      have h2 := miss_len (s := se.take i) hF.f0 hF.lf
      rw [List.length_take] at h2
      have := hF.s1
      omega
    · refine ⟨fun b o hb => s5 b o (fun e => by subst e; rw [hm] at hb; cases hb) (s3 _ _ (sa _ _ hb)), (la.trans (.of s3)).trans ((hL.same s3).le s5), ?_, E5.fg (.k (.k (.k (.d (.d (.k .nil))))))⟩
      rw [take_snoc hx, missOf_snoc, List.map_append, List.map_map]
      exact hL5
  · rintro σ' H' ⟨sa, la, hL, E3⟩
    rw [List.length_map, List.take_length] at hL
    refine s_ret E3 (ed_var 2 rfl) fun v H4 s4 ev => ?_
    obtain rfl : v = .ref m := ev
    exact q m H4 hm (sa.trans s4) (hL.same s4)
theorem ok_first_stray (T : Tx K mg) : DefOk P w K mg base 2 "_law_first_stray" (fun vs H Q _ => ∃ f s, RepL H [dFilm f, dSeen s] vs ∧ Fine f s ∧ ∀ d v H', D.isNon d = !strayB f s → d.isAny = false → Same H H' → Rep H' d v → Q v H') := by
  refine T.d__law_first_stray (fun vs H Q E ⟨f, s, r, _⟩ => by have := r.length; simpa using this.symm) fun X vs H Q E ⟨f, cdv, A, outer, s, e⟩ G ⟨fl, se, r, hF, q⟩ => ?_
  subst e
  have E := env_r (N := N__law_first_stray) r
  refine s_forS' G .never E (src_tup (er_var 1 rfl)) fun H2 s2 E2 => ?_
  refine ⟨fun i σ' H' => Same H2 H' ∧ strayB fl (se.take i) = false ∧ Env [some (R (dFilm fl)), some (R (dSeen se)), none, none, none, none] σ' H', ?_, ?_, ?_, ?_⟩
  · exact ⟨Same.refl _, rfl, E2⟩
  · rintro i σ' H' ⟨h, _⟩; exact h
  · rintro i d v σ' H' H'' hd ⟨sa, hs, E3⟩ s3 rd
    obtain ⟨x, hx, rfl⟩ := get_map hd
    have hxm : x ∈ se := List.mem_of_getElem? hx
    refine g_tup2 2 3 G rd fun u1 u2 ru1 ru2 => ?_
    have E4 := ((E3.same s3).set 2 (P := R (.int x.1)) ru1).set 3 (P := R (dLit x.2)) ru2
    have hlx := hF.ls _ hxm
    refine s_setC 4 (L := x.2) (enc := dDot) (fun y => !decide (y ∈ litAt fl x.1)) dDot G E4 [("_law_dot", 5)] (src_tup (er_var 3 rfl)) (blkOk_by (N := N__law_first_stray) (sc := defScope s_law_first_stray) (by decide +kernel)) (by omega) (fun s H0 C cl fp x hx => tg_name 5 G.nd)
      (fun s H0 C cl fp y hy => ts_one (td_ninE enc_dot (by decide) G.bk (er_var 5 rfl) (er_call (ok_lit_at T) G.bk (fl, x.1) hF.f0 (ad_cons (er_var 0 rfl) (ad_one (er_var 2 rfl)))))) (fun s H0 C cl fp y hy _ => er_var 5 rfl) (fun l σ5 H5 s5 hL5 E5 => ?_) (sw_true rfl rfl rfl (by decide +kernel))
    refine s_if E5 (td_neEL (l := x.2.filter fun y => !decide (y ∈ litAt fl x.1)) (m := []) enc_dot (by decide) G (ed_here hL5 (ed_var 4 rfl)) (ed_lst ad_nil)) (fun hk H6 s6 E6 => ?_) fun hk H6 s6 E6 => s_nil (s_nil ?_)
    · have hne : (x.2.filter fun y => !decide (y ∈ litAt fl x.1)) ≠ [] := by simpa using hk
      obtain ⟨y, ys, hy⟩ : ∃ y ys, (x.2.filter fun y => !decide (y ∈ litAt fl x.1)) = y :: ys := by
        cases h : (x.2.filter fun y => !decide (y ∈ litAt fl x.1)) with
        | nil => exact absurd h hne
        | cons y ys => (exact ⟨y, ys, rfl⟩)
      have hL6 := hL5.same s6
      rw [hy] at hL6
      refine s_ret E6 (P := fun H v => Rep H (.tup [.int x.1, dDot y]) v) ?_ fun v H7 s7 r7 => q _ v H7 ?_ rfl (((s2.trans sa).trans (s3.trans s5)).trans (s6.trans s7)) r7
      · exact er_t2 (er_var 2 rfl) (el_ix (ed_here hL6 (ed_var 4 rfl)) er_int (atI_nat (j := 0) rfl))
      · have : strayB fl se = true := by
          unfold strayB
          refine List.any_eq_true.mpr ⟨x, hxm, List.any_eq_true.mpr ⟨y, ?_, ?_⟩⟩
          · exact (List.mem_filter.mp (by rw [hy]; exact List.mem_cons_self)).1
          · exact (List.mem_filter.mp (show y ∈ x.2.filter fun y => !decide (y ∈ litAt fl x.1) by rw [hy]; exact List.mem_cons_self)).2
        rw [this]; rfl
    · refine ⟨(sa.trans s3).trans (s5.trans s6), ?_, E6.fg (.k (.k (.d (.d (.d (.k .nil))))))⟩
      have he : (x.2.filter fun y => !decide (y ∈ litAt fl x.1)) = [] := by simpa using hk
      unfold strayB at hs ⊢
      rw [take_snoc hx, List.any_append, hs]
      show (false || ((x.2.any fun d => !decide (d ∈ litAt fl x.1)) || false)) = false
      rw [Bool.false_or, Bool.or_false, List.any_eq_false]
      intro y hy hn
      have := List.filter_eq_nil_iff.mp he y hy
      exact this hn
  · rintro σ' H' ⟨sa, hs, E3⟩
    rw [List.length_map, List.take_length] at hs
    refine s_ret E3 er_non fun v H4 s4 r4 => q .non v H4 (by rw [hs]; rfl) rfl (s2.trans (sa.trans s4)) r4
end
end K31
namespace K31
open L2 PySem PySem.Spec PyProof.Rows
theorem putM_le {κ α : Type} [DecidableEq κ] (m : List (κ × α)) (k : κ) (d : α) : (putM m k d).length ≤ m.length + 1 := by
  unfold putM
  split
  · rw [List.length_map]; omega
  · rw [List.length_append]; exact Nat.le_refl _
theorem lastIn_len (m : List (Wire × Int)) (t : Int) (l : List Dot) : (lastIn m (t, l)).length ≤ m.length + 2 * l.length := by
  unfold lastIn
  induction l generalizing m with
  | nil => exact Nat.le_refl _
  | cons d l ih =>
    show (l.foldl (fun m d => lastPut m t d) (lastPut m t d)).length ≤ _
    have h := ih (lastPut m t d)
    have h1 := putM_le (putM m (sRow, d.1) t) (sCol, d.2) t
    have h2 := putM_le m (sRow, d.1) t
    rw [List.length_cons]
    unfold lastPut at h ⊢
    dsimp only at h ⊢
    omega
theorem lastOf_len : ∀ (s : Seen) (m : List (Wire × Int)), (∀ x ∈ s, x.2.length ≤ 100) → (s.foldl lastIn m).length ≤ m.length + 200 * s.length
  | [], m, _ => Nat.le_refl _
  | x :: s, m, h => by
    have h1 := lastOf_len s (lastIn m x) fun y hy => h y (List.mem_cons_of_mem _ hy)
    have h2 := lastIn_len m x.1 x.2
    have h3 := h x List.mem_cons_self
    rw [List.foldl_cons, List.length_cons]; have : lastIn m (x.1, x.2) = lastIn m x := rfl
    rw [this] at h2
    omega
section
variable {X : Cx} {Hz : Hp} {ρ : Rho} {pos : Pos} {σ : L2.St} {H : Hp} {D' : Ends} {rest : List Stmt} {k : Nat}
/-- x = {}, a dict by tuples -/
theorem s_setDT (i : Nat) {x : Str} {p' p2 : Pos} {κ : Type} (ke : κ → List Key) (G : GX X k) (E : Env ρ σ H) (q : ∀ l σ' H', H l = none → Same H H' → DictT ke H' l [] → Env (ρ.set i (some (rf l))) σ' H' → WSs X rest D' σ' H')
    (hi : X.N[i]? = some x := by rfl) (hx : Loc X.env.scope x := by first | exact .inl rfl | exact .inr rfl) (hs : swapsWith (.Dict [] [] p2) (some (.Name x p')) pos.line X.env = pure false := by rfl)
    (hf : X.fn x = true ∨ X.env.scope.names.lookup x = some .local := by first | exact .inl rfl | exact .inr rfl) : WSs X (.Assign [.Name x p'] (.Dict [] [] p2) pos :: rest) D' σ H := by
  refine s_mid i G (fun v H1 => ∃ l, v = .ref l ∧ H l = none ∧ H1 = upd H l (.dT [])) (.by pe_dnewT fun l hl => ⟨l, rfl, hl, rfl⟩) (fun v H1 ⟨l, ev, hl, e⟩ => ?_) hi hx hs hf
  subst ev e
  exact q l _ _ hl (same_upd hl) ⟨[], upd_same, .nil⟩ ((E.same (same_upd hl)).set i (P := rf l) rfl)
end
section
variable {P : Program} {w : World}
variable {K : PySem.W.Frag} {mg : Str → Option Value} {base : Heap}
abbrev DictW (H : Hp) (l : Addr) (m : List (Wire × Int)) : Prop := DictT keWire H l (mapM D.int m)
theorem ok_last_lit (T : Tx K mg) : DefOk P w K mg base 1 "_law_last_lit" (fun vs H Q _ => ∃ s : Seen, RepL H [dSeen s] vs ∧ s.length ≤ 12 ∧ (∀ x ∈ s, x.2.length ≤ 100) ∧ ∀ l' H', H l' = none → Same H H' → DictW H' l' (lastOf s) → Q (.ref l') H') := by
  refine T.d__law_last_lit (fun vs H Q E ⟨s, r, _⟩ => by have := r.length; simpa using this.symm) fun X vs H Q E ⟨f, cdv, A, outer, s, e⟩ G ⟨se, r, hs12, hs100, q⟩ => ?_
  subst e
  have E := env_r (N := N__law_last_lit) r
  refine s_setDT 1 keWire G E fun m σ1 H1 hm s1 hM E1 => ?_
  refine s_forS G .never E1 (srcT_tup (er_var 0 rfl)) fun H2 s2 E2 => ?_
  refine ⟨fun i σ' H' => Same H H' ∧ Le H2 H' ∧ DictW H' m ((se.take i).foldl lastIn []) ∧ Env [some (R (dSeen se)), some (rf m), none, none, none, none] σ' H', ?_, ?_, ?_, ?_⟩
  · exact ⟨s1.trans s2, Le.refl _, hM.same s2, E2⟩
  · rintro i σ' H' ⟨_, h, _⟩; exact h
  · rintro i d v σ' H' H'' hd ⟨sa, la, hL, E3⟩ s3 rd
    obtain ⟨x, hx, rfl⟩ := get_map hd
    have hxm : x ∈ se := List.mem_of_getElem? hx
    refine g_tup2 2 3 G rd fun u1 u2 ru1 ru2 => ?_
    have E4 := ((E3.same s3).set 2 (P := R (.int x.1)) ru1).set 3 (P := R (dLit x.2)) ru2
    have hlx := hs100 _ hxm
    have hil := lt_of_get hx
    have hm0 : ((se.take i).foldl lastIn []).length ≤ 200 * 12 := Nat.le_trans (lastOf_len _ [] fun y hy => hs100 y (List.mem_of_mem_take hy)) (by rw [List.length_take]; simp; omega)
    refine s_forS G .never E4 (srcT_tup (er_var 3 rfl)) fun H5 s5 E5 => ?_
    refine ⟨fun j σ' H' => Same H H' ∧ Le H5 H' ∧ DictW H' m (lastIn ((se.take i).foldl lastIn []) (x.1, x.2.take j)) ∧ Env [some (R (dSeen se)), some (rf m), some (R (.int x.1)), some (R (dLit x.2)), none, none] σ' H', ?_, ?_, ?_, ?_⟩
    · exact ⟨(sa.trans s3).trans s5, Le.refl _, (hL.same s3).same s5, E5⟩
    · rintro j σ' H' ⟨_, h, _⟩; exact h
    · rintro j d v σ' H6 H7 hd ⟨sa6, la6, hL6, E6⟩ s7 rd
      obtain ⟨y, hy, rfl⟩ := get_map hd
      refine g_tup2 4 5 G rd fun u1 u2 ru1 ru2 => ?_
      have E7 := ((E6.same s7).set 4 (P := R (.int y.1)) ru1).set 5 (P := R (.int y.2)) ru2
      have hj := lt_of_get hy
      have hlen := lastIn_len ((se.take i).foldl lastIn []) x.1 (x.2.take j)
      rw [List.length_take] at hlen
      have hz : (mapM D.int (lastIn ((se.take i).foldl lastIn []) (x.1, x.2.take j))).length < 100000 := by unfold mapM; rw [List.length_map]; omega
      refine s_dput (x := (sRow, y.1)) (d := .int x.1) keyE_wire G E7 (hL6.same s7) hz (ed_var 1 rfl) (er_t2 er_str (er_var 4 rfl)) (er_var 2 rfl) fun H8 s8 hL8 E8 => ?_
      rw [putM_map] at hL8
      have hz2 : (mapM D.int (putM (lastIn ((se.take i).foldl lastIn []) (x.1, x.2.take j)) (sRow, y.1) x.1)).length < 100000 := by
        unfold mapM at hz ⊢; rw [List.length_map] at hz ⊢
        have := putM_le (lastIn ((se.take i).foldl lastIn []) (x.1, x.2.take j)) (sRow, y.1) x.1
        omega
      refine s_dput (x := (sCol, y.2)) (d := .int x.1) keyE_wire G E8 hL8 hz2 (ed_var 1 rfl) (er_t2 er_str (er_var 5 rfl)) (er_var 2 rfl) fun H9 s9 hL9 E9 => s_nil ?_
      rw [putM_map] at hL9
      have le8 : Le H7 H8 := by obtain ⟨_, e, _⟩ := hL6.same s7; exact s8.le e rfl
      have le9 : Le H8 H9 := by obtain ⟨_, e, _⟩ := hL8; exact s9.le e rfl
      refine ⟨fun b o hb => ?_, (la6.trans (.of s7)).trans (le8.trans le9), ?_, E9.fg (.k (.k (.k (.k (.d (.d .nil))))))⟩
      · have hbm : b ≠ m := fun e => by subst e; rw [hm] at hb; cases hb
        exact s9 b o hbm (s8 b o hbm (s7 _ _ (sa6 _ _ hb)))
      · unfold lastIn
        dsimp only
        rw [foldl_take _ _ hy]
        exact hL9
    · rintro σ' H' ⟨sa6, la6, hL6, E6⟩
      rw [List.length_map, List.take_length] at hL6
      refine s_nil ⟨sa6, (la.trans (.of (s3.trans s5))).trans la6, ?_, E6.fg (.k (.k (.d (.d (.k (.k .nil))))))⟩
      rw [foldl_take _ _ hx]
      exact hL6
  · rintro σ' H' ⟨sa, la, hL, E3⟩
    rw [List.length_map, List.take_length] at hL
    refine s_ret E3 (ed_var 1 rfl) fun v H4 s4 ev => ?_
    obtain rfl : v = .ref m := ev
    exact q m H4 hm (sa.trans s4) (hL.same s4)
theorem wire_shaped {x : Wire} (h : x.1 = sRow ∨ x.1 = sCol) : SeqAt.shaped (.tuple [.str x.1, .int x.2]) = true := by
  have h1 : PyData.canLay0 (.str x.1) = true := by
    rcases h with h | h <;> rw [h] <;> decide +kernel
  simp only [SeqAt.shaped, PyData.canLay0, PyData.canLayAll0] at h1 ⊢
  rw [h1]
  rfl
theorem ok_may (T : Tx K mg) : DefOk P w K mg base 1 "_law_may_be_dead" (fun vs H Q _ => ∃ (l : Addr) (m : List (Wire × Int)) (fd : Bool) (x : Wire) (t : Int) (vs' : List V), vs = .ref l :: vs' ∧ DictW H l m ∧ (x.1 = sRow ∨ x.1 = sCol) ∧ RepL H [.tup [], .bl fd, dWire x, .int t] vs' ∧ ∀ H', Same H H' → Q (.bl (mayD m fd x t)) H') := by
  refine T.d__law_may_be_dead (fun vs H Q E ⟨l, m, fd, x, t, vs', ev, _, _, r, _⟩ => by subst ev; have := r.length; simpa using this.symm) fun X vs H Q E ⟨f, cdv, A, outer, s, e⟩ G ⟨l, m, fd, x, t, vs', ev, hm, hw, r, q⟩ => ?_
  subst e ev
  obtain ⟨v1, v2, v3, v4, rfl, r1, r2, r3, r4⟩ : ∃ v1 v2 v3 v4, vs' = [v1, v2, v3, v4] ∧ Rep H (.tup []) v1 ∧ Rep H (.bl fd) v2 ∧ Rep H (dWire x) v3 ∧ Rep H (.int t) v4 := by
    cases r with
    | cons a t => cases t with
      | cons b t => obtain ⟨c, d, e, rc, rd⟩ := t.two; exact ⟨_, _, _, _, by rw [e], a, b, rc, rd⟩
  have E := env_p (N := N__law_may_be_dead) (Ps' := [rf l, R (.tup []), R (.bl fd), R (dWire x), R (.int t)]) (vs := [.ref l, v1, v2, v3, v4]) (H := H) (.cons rfl (.cons r1 (.cons r2 (.cons r3 (.cons r4 .nil)))))
  have hsh := wire_shaped hw
  refine s_skip E (td_opR (op_inT G.hu65) rfl (er_var 3 rfl) (er_var 1 rfl) fun a b H p1 p2 Q q => ?_) fun H1 s1 E1 => ?_
  · cases p2 with
    | tup h2 r2 =>
      cases r2
      cases p1 with
      | tup h1 r1 =>
        obtain ⟨u1, u2, rfl, ra, rb⟩ := r1.two
        cases ra; cases rb
        exact ⟨_, [], .tup (SqT.of h1) (.cons (.str _) (.cons (.int _) .nil)), .tup (SqT.of h2) .nil, hsh, rfl, q⟩
  · have hm1 := hm.same s1
    cases hg : getM m x with
    | none =>
      refine s_ret E1 (er_or (k := true) (.is (er_dnin keyE_wire G hm1.r (ed_var 0 rfl) (er_var 3 rfl)) (by rw [getM_map, hg]; rfl)) (fun h => by cases h) (l := true)) fun v H2 s2 r2 => ?_
      cases r2
      have := q H2 (s1.trans s2)
      unfold mayD at this
      rw [hg] at this
      exact this
    | some i =>
      have hg' : getM (mapM D.int m) x = some (.int i) := by rw [getM_map, hg]; rfl
      refine s_ret E1 (er_or (k := false) (.is (er_dnin keyE_wire G hm1.r (ed_var 0 rfl) (er_var 3 rfl)) (by rw [hg']; rfl)) (fun _ => er_and (er_var 2 rfl) fun _ => er_lt (er_dget keyE_wire G hm1.r (ed_var 0 rfl) (er_var 3 rfl) hg') (er_var 4 rfl))) fun v H2 s2 r2 => ?_
      cases r2
      have := q H2 (s1.trans s2)
      unfold mayD at this
      rw [hg] at this
      exact this
end
section
variable {X : Cx} {Hz : Hp} {ρ : Rho} {a b c d e : Expr} {pos pp : Pos} {k : Nat}
theorem er_may {l : Addr} {m : List (Wire × Int)} {fd : Bool} {x : Wire} {t : Int} (F : DefOk X.prog X.w X.K X.mg X.base 1 "_law_may_be_dead" (fun vs H Q _ => ∃ (l : Addr) (m : List (Wire × Int)) (fd : Bool) (x : Wire) (t : Int) (vs' : List V), vs = .ref l :: vs' ∧ DictW H l m ∧ (x.1 = sRow ∨ x.1 = sCol) ∧ RepL H [.tup [], .bl fd, dWire x, .int t] vs' ∧ ∀ H', Same H H' → Q (.bl (mayD m fd x t)) H'))
    (G : GX X k) (hk : 1 ≤ k) (hm : DictW Hz l m) (hx : x.1 = sRow ∨ x.1 = sCol) (ha : ED X Hz ρ a (rf l).p) (h : AD X Hz ρ [b, c, d, e] (fun H vs => RepL H [.tup [], .bl fd, dWire x, .int t] vs)) (hg : Gl X "_law_may_be_dead" := by rfl)
    (he : starEach [a, b, c, d, e] X.env = (false, eval a X.env) :: starEach [b, c, d, e] X.env := by rfl) (hpl : (backTo pos (starEach [b, c, d, e] X.env)).any (·.1) = false := by rfl) :
    TD X Hz ρ (.Call (.Name "_law_may_be_dead" pp) [a, b, c, d, e] [] pos) (mayD m fd x t) := by
  refine td_val ⟨fun σ H Q E q => we_call F (G.mono hk) ?_ hg (by decide) he hpl⟩
  refine .by (pa_cons pe_W pa_W he) ?_
  refine ha.run σ H _ E fun v H1 s1 ev => ?_
  obtain rfl : v = .ref l := ev
  refine h.run σ H1 _ (E.same s1) fun vs H2 s2 r => ?_
  exact ⟨l, m, fd, x, t, vs, rfl, (hm.same (E.s0.trans (s1.trans s2))), hx, r, fun H3 s3 => q _ H3 ((s1.trans s2).trans s3) (.bl _)⟩
end
section
variable {X : Cx} {Hz : Hp} {ρ : Rho} {a e it tg : Expr} {es : List Expr} {pos p : Pos} {k : Nat} {x : Str} {sp : Sp} {σ : L2.St} {H : Hp} {D' : Ends} {rest body : List Stmt}
/-- a list, new since H0 -/
def LstN (H0 : Hp) (ds : List D) (H : Hp) (v : V) : Prop := ∃ a, v = .ref a ∧ H0 a = none ∧ LstAt H a ds
theorem ed_callS {A : Hp → List V → Prop} {P : Hp → V → Prop} (F : DefOk X.prog X.w X.K X.mg X.base k x sp) (G : GX X k) (ha : AD X Hz ρ (e :: es) A) (h : ∀ vs H, Same Hz H → A H vs → ∀ Q : VK, (∀ v H', Same H H' → P H' v → Q v H') → sp vs H Q E0) (hg : Gl X x := by rfl) (hd : (x == ("__debug__" : Str)) = false := by decide)
    (he : starEach (e :: es) X.env = (false, eval e X.env) :: starEach es X.env := by rfl) (hpl : (backTo pos (starEach es X.env)).any (·.1) = false := by rfl) : ED X Hz ρ (.Call (.Name x p) (e :: es) [] pos) P :=
  ⟨fun σ H Q E q => we_call F G (ha.run σ H _ E fun vs H1 s1 p1 => h vs H1 (E.s0.trans s1) p1 _ fun v H2 s2 p2 => q v H2 (s1.trans s2) p2) hg hd he hpl⟩
/-- a for over a new list -/
theorem s_forN {ds : List D} (G : GX X k) (hp : PassesOwn (model X.prog X.w) X.A X.env X.xe) (E : Env ρ σ H) (hi : ED X H ρ it (LstN H ds))
    (q : ∀ H1 a, Same H H1 → H a = none → LstAt H1 a ds → Env ρ σ H1 → ∃ J : Nat → L2.St → Hp → Prop, J 0 σ H1 ∧ (∀ i σ' H', J i σ' H' → Le H1 H' ∧ H' a = H1 a) ∧
      (∀ i d v σ' H', ds[i]? = some d → J i σ' H' → Rep H' d v → WG X tg v σ' H' fun σ2 H2 => WSs X body { D' with nx := J (i + 1), ct := J (i + 1), bk := fun σ' H' => WSs X rest D' σ' H' } σ2 H2) ∧
      (∀ σ' H', J ds.length σ' H' → WSs X rest D' σ' H'))
    (hs : ∀ x, foldedSetIterable it X.env x = pure x := by intro _; rfl) : WSs X (.For tg it body [] pos :: rest) D' σ H := by
  refine s_cons (.by (ps_for hp G.calm (pi_list pe_W) pg_W pss_W hs) ?_)
  refine hi.run σ H _ E.en fun v H1 s1 ⟨a, ev, ha, hl⟩ => ?_
  subst ev
  obtain ⟨J, j0, jl, js, jd⟩ := q H1 a s1 ha hl (E.same s1)
  obtain ⟨vs, h1, r1⟩ := hl
  refine ⟨_, rfl, ⟨_, SqL.of h1⟩, ?_⟩
  have hlen := r1.length
  refine for_it (n := vs.length) (G := fun H' => H' a = some (.lst vs)) (Walk.mono walk_list (fun H g => SqL.of g) fun i Ha v Hb hi g y => y) J j0 (fun i σ' H' _ j => (jl i σ' H' j).2.trans h1) (fun i x σ' H' H'' hi' j y => ?_) fun σ' H' j => jd σ' H' (by rw [hlen]; exact j)
  obtain ⟨rfl, hx⟩ := y
  obtain ⟨d, hd, rd⟩ := r1.getV hx
  exact js i d x σ' _ hd j (rd.le (jl i σ' _ j).1)
/-- e is not None, e one of some data -/
theorem td_notN' {P : D → Prop} {b : Bool} {j : Nat} {p2 : Pos} (ha : ED X Hz ρ a fun H v => ∃ d, P d ∧ Rep H d v) (h : ∀ d, P d → (!d.isNon) = b ∧ d.isAny = false) : TD X Hz ρ (.Compare a [.IsNot] [.Constant .none j p2] pos) b :=
  td_op op_notN (nomark _) (stb_ex fun d => stb_R) ha er_non fun x y H ⟨d, hd, p1⟩ p2 Q q => by
    cases p2
    obtain ⟨h1, h2⟩ := h d hd
    exact ⟨rfl, by rw [p1.non_iff h2, h1]; exact q⟩
end
section
variable {P : Program} {w : World}
variable {K : PySem.W.Frag} {mg : Str → Option Value} {base : Heap}
theorem dedE_snoc (l : List Edge) (e : Edge) : dedE (l ++ [e]) = if e ∈ dedE l then dedE l else dedE l ++ [e] := by
  unfold dedE; rw [List.foldl_append]; rfl
theorem dedE_len (l : List Edge) : (dedE l).length ≤ l.length := by
  have : ∀ (l acc : List Edge), (l.foldl (fun acc e => if e ∈ acc then acc else acc ++ [e]) acc).length ≤ acc.length + l.length := by
    intro l
    induction l with
    | nil => intro acc; exact Nat.le_refl _
    | cons e l ih =>
      intro acc
      rw [List.foldl_cons, List.length_cons]; refine Nat.le_trans (ih _) ?_
      split
      · omega
      · (rw [List.length_append]; simp; omega)
  have h := this l []
  simpa [dedE] using h
theorem ok_demands (T : Tx K mg) : DefOk P w K mg base 3 "_law_demands" (fun vs H Q _ => ∃ (f : Films) (s : Seen) (fd : Bool), RepL H [dFilm f, dSeen s, .tup [], .bl fd] vs ∧ Fine f s ∧
    (demandsOf f s fd = none → ∀ H', Same H H' → Q .non H') ∧ (∀ es, demandsOf f s fd = some es → ∀ l' H', H l' = none → Same H H' → LstAt H' l' (es.map dEdge) → Q (.ref l') H')) := by
  refine T.d__law_demands (fun vs H Q E ⟨f, s, fd, r, _⟩ => by have := r.length; simpa using this.symm) fun X vs H Q E ⟨f, cdv, A, outer, s, e⟩ G ⟨fl, se, fd, r, hF, q1, q2⟩ => ?_
  subst e
  have E := env_r (N := N__law_demands) r
  -- strays
  refine s_if E (k := strayB fl se) (td_notN' (P := fun d => D.isNon d = !strayB fl se ∧ d.isAny = false) (ed_call (ok_first_stray T) (G.mono (by decide)) (ad_cons (er_var 0 rfl) (ad_one (er_var 1 rfl))) fun vs H r Q q => ⟨fl, se, r, hF, fun d v H' h1 h2 s' r' => q v H' s' ⟨d, ⟨h1, h2⟩, r'⟩⟩) fun d h => ⟨by rw [h.1, Bool.not_not], h.2⟩) (fun hk H1 s1 E1 => ?_) fun hk0 H1 s1 E1 => s_nil ?_
  · refine s_ret E1 er_non fun v H2 s2 r2 => ?_
    cases r2
    exact q1 (by unfold demandsOf; rw [if_pos hk]) H2 (s1.trans s2)
  · -- found, last = [], last_lit(seen)
    refine s_par2 4 5 G ?_
    refine .by (pe_lst pa_nil) ⟨Nat.zero_le _, fun lf hlf => ?_⟩
    have sf := same_upd (o := .lst []) hlf
    refine we_call (ok_last_lit T) (G.mono (by decide)) ?_
    refine (ad_one (er_var 1 rfl)).run _ _ _ (E1.same sf).en fun vs H2 s2 r2 => ?_
    refine ⟨se, r2, hF.s1, hF.ls, fun lm H3 hlm s3 hM => ?_⟩
    have hlf0 : H lf = none := s1.free hlf
    have hlm0 : H lm = none := (s1.trans (sf.trans s2)).free hlm
    have hfm : lf ≠ lm := by
      intro z; subst z
      have := s2 _ _ (upd_same (H := H1) (a := lf) (o := .lst []))
      rw [hlm] at this; cases this
    have s03 := (s1.trans sf).trans (s2.trans s3)
    have E3 := ((E.same s03).set 4 (P := rf lf) rfl).set 5 (P := rf lm) rfl
    have hLf : LstAt H3 lf (([] : List Edge).map dEdge) := ⟨[], (s2.trans s3) _ _ upd_same, .nil⟩
    -- the loop
    have hfL := hF.lf
    have hml := miss_len (s := se) hF.f0 hF.lf
    refine s_forN (ds := (missOf fl se).map dMiss) G .never E3 (ed_callS (ok_missing T) G (ad_cons (er_var 0 rfl) (ad_one (er_var 1 rfl))) fun vs H4 s4 r4 Q q => ⟨fl, se, r4, hF, fun l' H' hl' s' hL' => q _ H' s' ⟨l', rfl, s4.free hl', hL'⟩⟩) fun H4 a s4 ha hLa E4 => ?_
    have hafm : lf ≠ a := by
      intro z; subst z
      obtain ⟨_, e, _⟩ := hLf
      rw [e] at ha; cases ha
    refine ⟨fun i σ' H' => Same H H' ∧ Le H4 H' ∧ H' a = H4 a ∧ DictW H' lm (lastOf se) ∧ (none, none) ∉ ((missOf fl se).take i).map (edgeAt (lastOf se) fd) ∧ LstAt H' lf ((dedE (((missOf fl se).take i).map (edgeAt (lastOf se) fd))).map dEdge) ∧
      Env [some (R (dFilm fl)), some (R (dSeen se)), some (R (.tup [])), some (R (.bl fd)), some (rf lf), some (rf lm), none, none, none, none] σ' H', ?_, ?_, ?_, ?_⟩
    · exact ⟨s03.trans s4, Le.refl _, rfl, hM.same s4, by simp, hLf.same s4, E4⟩
    · rintro i σ' H' ⟨_, h1, h2, _⟩; exact ⟨h1, h2⟩
    · rintro i d v σ' H' hd ⟨sa, la, ea, hMi, hno, hL, E5⟩ rd
      obtain ⟨x, hx, rfl⟩ := get_map hd
      have hi := lt_of_get hx
      refine g_tup2 6 7 G rd fun u1 u2 ru1 ru2 => ?_
      have E6 := (E5.set 6 (P := R (.int x.1)) ru1).set 7 (P := R (dDot x.2)) ru2
      refine s_set 8 (d := dOpt (edgeAt (lastOf se) fd x).1) G E6 (.is (er_if (er_may (x := (sRow, x.2.1)) (ok_may T) G (by decide) hMi (.inl rfl) (ed_var 5 rfl) (ad_cons (er_var 2 rfl) (ad_cons (er_var 3 rfl) (ad_cons (er_t2 er_str (er_ixt (er_var 7 rfl) er_int rfl)) (ad_one (er_var 6 rfl)))))) (fun _ => er_ixt (d := .int x.2.1) (er_var 7 rfl) er_int rfl) fun _ => er_non) ?_) fun σ7 H7 s7 E7 => ?_
      · unfold edgeAt
        dsimp only
        cases mayD (lastOf se) fd (sRow, x.2.1) x.1 <;> rfl
      have hM7 := hMi.same s7
      refine s_set 9 (d := dOpt (edgeAt (lastOf se) fd x).2) G E7 (.is (er_if (er_may (x := (sCol, x.2.2)) (ok_may T) G (by decide) hM7 (.inr rfl) (ed_var 5 rfl) (ad_cons (er_var 2 rfl) (ad_cons (er_var 3 rfl) (ad_cons (er_t2 er_str (er_ixt (er_var 7 rfl) er_int rfl)) (ad_one (er_var 6 rfl)))))) (fun _ => er_ixt (d := .int x.2.2) (er_var 7 rfl) er_int rfl) fun _ => er_non) ?_) fun σ8 H8 s8 E8 => ?_
      · unfold edgeAt
        dsimp only
        cases mayD (lastOf se) fd (sCol, x.2.2) x.1 <;> rfl
      generalize hed : edgeAt (lastOf se) fd x = ed at E8
      have hopt : ∀ o, (dOpt o).isAny = false ∧ (dOpt o).isNon = o.isNone := fun o => by cases o <;> exact ⟨rfl, rfl⟩
      have s78 := s7.trans s8
      refine s_if E8 (td_and (td_isN (hopt _).1 (er_var 8 rfl)) fun _ => td_isN (hopt _).1 (er_var 9 rfl)) (fun hk H9 s9 E9 => ?_) fun hk H9 s9 E9 => s_nil ?_
      · refine s_ret E9 er_non fun v H10 s10 r10 => ?_
        cases r10
        rw [(hopt _).2, (hopt _).2, Bool.and_eq_true, Option.isNone_iff_eq_none, Option.isNone_iff_eq_none] at hk
        refine q1 ?_ H10 (sa.trans (s78.trans (s9.trans s10)))
        unfold demandsOf
        rw [if_neg (by rw [hk0]; decide)]
        dsimp only
        rw [if_pos]
        refine List.mem_map.mpr ⟨x, List.mem_of_getElem? hx, ?_⟩
        rw [hed]
        exact Prod.ext hk.1 hk.2
      · have hne : ed ≠ (none, none) := by
          intro e; subst e
          exact absurd hk (by decide)
        have hL9 := hL.same (s78.trans s9)
        refine s_if E9 (td_ninEL (x := ed) (l := dedE (((missOf fl se).take i).map (edgeAt (lastOf se) fd))) enc_edge (by decide) G (er_t2 (er_var 8 rfl) (er_var 9 rfl)) (ed_here hL9 (ed_var 4 rfl))) (fun hk2 H10 s10 E10 => ?_) fun hk2 H10 s10 E10 => s_nil (s_nil ?_)
        · refine s_append (d := dEdge ed) E10 (hL9.same s10) (ed_var 4 rfl) (er_t2 (er_var 8 rfl) (er_var 9 rfl)) ?_ fun H11 s11 hL11 E11 => s_nil (s_nil ?_)
          · rw [List.length_map]
            have h1 := dedE_len (((missOf fl se).take i).map (edgeAt (lastOf se) fd))
            rw [List.length_map, List.length_take] at h1
            have := hF.s1
            omega
          · have s11' := s78.trans (s9.trans s10)
            have hnin : ed ∉ dedE (((missOf fl se).take i).map (edgeAt (lastOf se) fd)) := by simpa using hk2
            refine ⟨fun b o hb => s11 b o (fun e => by subst e; rw [hlf0] at hb; cases hb) (s11' _ _ (sa _ _ hb)), (la.trans (.of s11')).trans (by obtain ⟨_, e, _⟩ := hL9.same s10; exact s11.le e rfl), ?_, ?_, ?_, ?_, E11.fg (.k (.k (.k (.k (.k (.k (.d (.d (.d (.d .nil))))))))))⟩
            · obtain ⟨_, e, _⟩ := hLa
              rw [e] at ea ⊢
              exact s11 _ _ hafm.symm (s11' _ _ ea)
            · obtain ⟨us, e, r⟩ := hMi.same s11'
              exact ⟨us, s11 _ _ hfm.symm e, r.le (by obtain ⟨_, e, _⟩ := hL9.same s10; exact s11.le e rfl)⟩
            · rw [take_snoc hx, List.map_append, List.mem_append]
              rintro (h | h)
              · exact hno h
              · rw [List.map_singleton, List.mem_singleton, hed] at h
                exact hne h.symm
            · rw [take_snoc hx, List.map_append, List.map_singleton, hed, dedE_snoc, if_neg hnin, List.map_append]
              exact hL11
        · have s11' := s78.trans (s9.trans s10)
          have hin : ed ∈ dedE (((missOf fl se).take i).map (edgeAt (lastOf se) fd)) := by simpa using hk2
          refine ⟨sa.trans s11', la.trans (.of s11'), ?_, hMi.same s11', ?_, ?_, E10.fg (.k (.k (.k (.k (.k (.k (.d (.d (.d (.d .nil))))))))))⟩
          · obtain ⟨_, e, _⟩ := hLa
            rw [e] at ea ⊢
            exact s11' _ _ ea
          · rw [take_snoc hx, List.map_append, List.mem_append]
            rintro (h | h)
            · exact hno h
            · rw [List.map_singleton, List.mem_singleton, hed] at h
              exact hne h.symm
          · rw [take_snoc hx, List.map_append, List.map_singleton, hed, dedE_snoc, if_pos hin]
            exact hL9.same s10
    · rintro σ' H' ⟨sa, la, ea, hMi, hno, hL, E5⟩
      rw [List.length_map, List.take_length] at hno hL
      refine s_ret E5 (ed_var 4 rfl) fun v H6 s6 ev => ?_
      obtain rfl : v = .ref lf := ev
      refine q2 _ ?_ lf H6 hlf0 (sa.trans s6) (hL.same s6)
      unfold demandsOf
      rw [if_neg (by rw [hk0]; decide)]
      dsimp only
      rw [if_neg hno]
end
end K31
namespace K31
open L2 PySem PySem.Spec PyProof.Rows
/-! ### matchings -/
section
variable {α β : Type} [DecidableEq α] [DecidableEq β]
structure Mat (E M : List (α × β)) : Prop where
  sub : ∀ e ∈ M, e ∈ E
  l : (M.map Prod.fst).Nodup
  r : (M.map Prod.snd).Nodup
/-- the search from l has ended: its rights are T -/
structure Stuck (E M : List (α × β)) (l : α) (T : List β) : Prop where
  all : ∀ r, (l, r) ∈ E → r ∈ T
  met : ∀ r ∈ T, ∃ x, (x, r) ∈ M ∧ ∀ r', (x, r') ∈ E → r' ∈ T
theorem fill_up {γ : Type} [DecidableEq γ] {A B : List γ} (ha : A.Nodup) (hs : ∀ x ∈ A, x ∈ B) (hl : B.length ≤ A.length) {b : γ} (hb : b ∈ B) : b ∈ A := by
  refine Classical.byContradiction fun hn => ?_; have h1 : A.length ≤ (B.erase b).length := nodup_len ha fun x hx => (List.mem_erase_of_ne (fun e => hn (by rw [← e]; exact hx))).mpr (hs x hx)
  rw [List.length_erase_of_mem hb] at h1
  have : 0 < B.length := List.length_pos_of_mem hb
  omega
theorem snd_eq {M : List (α × β)} (h : (M.map Prod.fst).Nodup) {x : α} {r r' : β} (h1 : (x, r) ∈ M) (h2 : (x, r') ∈ M) : r = r' := by
  induction M with
  | nil => cases h1
  | cons e M ih =>
    rw [List.map_cons, List.nodup_cons] at h; rcases List.mem_cons.mp h1 with e1 | m1
    · rcases List.mem_cons.mp h2 with e2 | m2
      · rw [e1.symm] at e2; exact (Prod.ext_iff.mp e2).2.symm
      · exact absurd (List.mem_map.mpr ⟨_, m2, by rw [← e1]⟩) h.1
    · rcases List.mem_cons.mp h2 with e2 | m2
      · exact absurd (List.mem_map.mpr ⟨_, m1, by rw [← e2]⟩) h.1
      · exact ih h.2 m1 m2
theorem fst_eq {M : List (α × β)} (h : (M.map Prod.snd).Nodup) {x x' : α} {r : β} (h1 : (x, r) ∈ M) (h2 : (x', r) ∈ M) : x = x' := by
  induction M with
  | nil => cases h1
  | cons e M ih =>
    rw [List.map_cons, List.nodup_cons] at h; rcases List.mem_cons.mp h1 with e1 | m1
    · rcases List.mem_cons.mp h2 with e2 | m2
      · rw [e1.symm] at e2; exact (Prod.ext_iff.mp e2).1.symm
      · exact absurd (List.mem_map.mpr ⟨_, m2, by rw [← e1]⟩) h.1
    · rcases List.mem_cons.mp h2 with e2 | m2
      · exact absurd (List.mem_map.mpr ⟨_, m1, by rw [← e2]⟩) h.1
      · exact ih h.2 m1 m2
theorem nodup_mapOn {γ δ : Type} {f : γ → δ} {l : List γ} (hl : l.Nodup) (hf : ∀ x ∈ l, ∀ y ∈ l, f x = f y → x = y) : (l.map f).Nodup := by
  induction l with
  | nil => exact List.nodup_nil
  | cons a l ih =>
    rw [List.nodup_cons] at hl
    rw [List.map_cons, List.nodup_cons]; refine ⟨fun h => ?_, ih hl.2 fun x hx y hy => hf x (List.mem_cons_of_mem _ hx) y (List.mem_cons_of_mem _ hy)⟩
    obtain ⟨x, hx, e⟩ := List.mem_map.mp h
    exact hl.1 (hf x (List.mem_cons_of_mem _ hx) a List.mem_cons_self e ▸ hx)
theorem nodup_ofMap {γ δ : Type} {f : γ → δ} {l : List γ} (h : (l.map f).Nodup) : l.Nodup := by
  induction l with
  | nil => exact List.nodup_nil
  | cons a l ih =>
    rw [List.map_cons, List.nodup_cons] at h; exact List.nodup_cons.mpr ⟨fun hm => h.1 (List.mem_map_of_mem hm), ih h.2⟩
theorem map_inj {γ δ : Type} {f : γ → δ} {l : List γ} (h : (l.map f).Nodup) {x y : γ} (hx : x ∈ l) (hy : y ∈ l) (e : f x = f y) : x = y := by
  induction l with
  | nil => cases hx
  | cons a l ih =>
    rw [List.map_cons, List.nodup_cons] at h; rcases List.mem_cons.mp hx with e1 | m1
    · rcases List.mem_cons.mp hy with e2 | m2
      · rw [e1, e2]
      · exact absurd (List.mem_map.mpr ⟨y, m2, by rw [← e, e1]⟩) h.1
    · rcases List.mem_cons.mp hy with e2 | m2
      · exact absurd (List.mem_map.mpr ⟨x, m1, by rw [e, e2]⟩) h.1
      · exact ih h.2 m1 m2
/-- an ended search stays ended -/
theorem Stuck.keep {E M M' : List (α × β)} {l : α} {T : List β} (h : Stuck E M l T) (hm : Mat E M) (hm' : Mat E M') (hl : ∀ e ∈ M, ∃ r, (e.1, r) ∈ M') : Stuck E M' l T := by
  refine ⟨h.all, fun r0 hr0 => ?_⟩
  -- the pairs of M at T, the pairs of M' at their lefts
  let A := M.filter fun e => decide (e.2 ∈ T)
  let L := A.map Prod.fst
  let B := M'.filter fun e => decide (e.1 ∈ L)
  have hL : L.Nodup := hm.l.sublist (List.filter_sublist.map _)
  have hLx : ∀ x ∈ L, ∀ r', (x, r') ∈ E → r' ∈ T := by
    intro x hx r' hr'
    obtain ⟨e, he, rfl⟩ := List.mem_map.mp hx
    obtain ⟨h1, h2⟩ := List.mem_filter.mp he
    obtain ⟨y, hy, hy2⟩ := h.met e.2 (of_decide_eq_true h2)
    have : e.1 = y := fst_eq hm.r (x := e.1) (r := e.2) h1 hy
    exact hy2 r' (this ▸ hr')
  have hBr : (B.map Prod.snd).Nodup := hm'.r.sublist (List.filter_sublist.map _)
  have hBT : ∀ r ∈ B.map Prod.snd, r ∈ A.map Prod.snd := by
    intro r hr
    obtain ⟨e, he, rfl⟩ := List.mem_map.mp hr
    obtain ⟨h1, h2⟩ := List.mem_filter.mp he
    have hT := hLx e.1 (of_decide_eq_true h2) e.2 (hm'.sub _ h1)
    obtain ⟨y, hy, _⟩ := h.met e.2 hT
    exact List.mem_map.mpr ⟨(y, e.2), List.mem_filter.mpr ⟨hy, decide_eq_true hT⟩, rfl⟩
  have hlen : (A.map Prod.snd).length ≤ (B.map Prod.snd).length := by
    rw [List.length_map, List.length_map]
    have h1 : L.length ≤ (B.map Prod.fst).length := nodup_len hL fun x hx => by
      obtain ⟨e, he, rfl⟩ := List.mem_map.mp hx
      obtain ⟨r, hr⟩ := hl e (List.mem_filter.mp he).1
      exact List.mem_map.mpr ⟨(e.1, r), List.mem_filter.mpr ⟨hr, decide_eq_true hx⟩, rfl⟩
    have e1 : (B.map Prod.fst).length = B.length := List.length_map ..
    show A.length ≤ B.length
    have e2 : L.length = A.length := List.length_map ..
    omega
  obtain ⟨y0, hy0, _⟩ := h.met r0 hr0
  have hr0A : r0 ∈ A.map Prod.snd := List.mem_map.mpr ⟨(y0, r0), List.mem_filter.mpr ⟨hy0, decide_eq_true hr0⟩, rfl⟩
  obtain ⟨e, he, e2⟩ := List.mem_map.mp (fill_up hBr hBT hlen hr0A)
  obtain ⟨h1, h2⟩ := List.mem_filter.mp he
  subst e2
  exact ⟨e.1, h1, hLx e.1 (of_decide_eq_true h2)⟩
/-- every left is matched, or its search has ended -/
def Full (E M : List (α × β)) : Prop := ∀ e ∈ E, (∃ r, (e.1, r) ∈ M) ∨ ∃ T, Stuck E M e.1 T
open Classical in
theorem full_max {E M M2 : List (α × β)} (hm : Mat E M) (hf : Full E M) (h2 : Mat E M2) : M2.length ≤ M.length := by
  let InT : β → Prop := fun r => ∃ l T, Stuck E M l T ∧ r ∈ T
  let part : α → β → β := fun x r => ((M.find? fun p => decide (p.1 = x)).map Prod.snd).getD r
  have hpart : ∀ x r r', (x, r') ∈ M → part x r = r' := by
    intro x r r' h
    have : ∃ p, M.find? (fun p => decide (p.1 = x)) = some p := by
      cases e : M.find? (fun p => decide (p.1 = x)) with
      | some p => exact ⟨p, rfl⟩
      | none => exact absurd (decide_eq_true rfl) (List.find?_eq_none.mp e _ h)
    obtain ⟨p, e⟩ := this
    have h1 := List.mem_of_find?_eq_some e
    have h3 : p.1 = x := by have := List.find?_some e; exact of_decide_eq_true this
    show ((M.find? fun p => decide (p.1 = x)).map Prod.snd).getD r = r'
    rw [e]
    show p.2 = r'
    have : (x, p.2) ∈ M := by rw [← h3]; exact h1
    exact snd_eq hm.l this h
  let φ : α × β → β := fun e => if InT e.2 then e.2 else part e.1 e.2
  have key : ∀ e ∈ M2, (InT e.2 ∧ ∃ x, (x, e.2) ∈ M) ∨ (¬ InT e.2 ∧ ∃ r, (e.1, r) ∈ M ∧ ¬ InT r) := by
    intro e he
    by_cases hT : InT e.2
    · obtain ⟨l, T, hs, hr⟩ := hT
      obtain ⟨x, hx, _⟩ := hs.met _ hr
      exact .inl ⟨⟨l, T, hs, hr⟩, x, hx⟩
    · refine .inr ⟨hT, ?_⟩
      rcases hf e (h2.sub e he) with ⟨r, hr⟩ | ⟨T, hs⟩
      · refine ⟨r, hr, fun ⟨l, T, hs, hrT⟩ => ?_⟩
        obtain ⟨x, hx, hN⟩ := hs.met r hrT
        have : e.1 = x := fst_eq hm.r hr hx
        exact hT ⟨l, T, hs, hN e.2 (this ▸ h2.sub e he)⟩
      · exact absurd ⟨e.1, T, hs, hs.all e.2 (h2.sub e he)⟩ hT
  have hsub : ∀ r ∈ M2.map φ, r ∈ M.map Prod.snd := by
    intro r hr
    obtain ⟨e, he, rfl⟩ := List.mem_map.mp hr
    rcases key e he with ⟨hT, x, hx⟩ | ⟨hT, r', hr', _⟩
    · show (if InT e.2 then e.2 else part e.1 e.2) ∈ _
      rw [if_pos hT]
      exact List.mem_map.mpr ⟨_, hx, rfl⟩
    · show (if InT e.2 then e.2 else part e.1 e.2) ∈ _
      rw [if_neg hT, hpart _ _ _ hr']
      exact List.mem_map.mpr ⟨_, hr', rfl⟩
  have hnd : (M2.map φ).Nodup := by
    refine nodup_mapOn (nodup_ofMap h2.l) fun a ha b hb e => ?_
    have e : (if InT a.2 then a.2 else part a.1 a.2) = (if InT b.2 then b.2 else part b.1 b.2) := e
    rcases key a ha with ⟨ta, _⟩ | ⟨ta, ra, hra, nra⟩ <;> rcases key b hb with ⟨tb, _⟩ | ⟨tb, rb, hrb, nrb⟩
    · rw [if_pos ta, if_pos tb] at e
      exact map_inj h2.r ha hb e
    · rw [if_pos ta, if_neg tb, hpart _ _ _ hrb] at e
      exact absurd ta (e ▸ nrb)
    · rw [if_neg ta, if_pos tb, hpart _ _ _ hra] at e
      exact absurd tb (e ▸ nra)
    · rw [if_neg ta, if_neg tb, hpart _ _ _ hra, hpart _ _ _ hrb] at e
      subst e
      exact map_inj h2.l ha hb (fst_eq hm.r hra hrb)
  have := nodup_len hnd hsub
  rw [List.length_map, List.length_map] at this
  exact this
end
/-! ### the two graphs -/
abbrev sLone : Str := "lone"
def leftE (e : Edge) : Wire := match e.1 with
  | none => (sLone, e.2.getD 0)
  | some r => (sRow, r)
def rightE (e : Edge) : Wire := match e.2 with
  | none => (sLone, e.1.getD 0)
  | some c => (sCol, c)
def pEdge (e : Edge) : Wire × Wire := (leftE e, rightE e)
/-- the lines that have to be dead -/
def mustR (es : List Edge) : List Int := dedS ((es.filter fun e => e.2.isNone).map fun e => e.1.getD 0)
def mustC (es : List Edge) : List Int := dedS ((es.filter fun e => e.1.isNone).map fun e => e.2.getD 0)
def restE (es : List Edge) : List (Int × Int) := (es.filter fun e => e.1.isSome && e.2.isSome && !decide (e.1.getD 0 ∈ mustR es) && !decide (e.2.getD 0 ∈ mustC es)).map fun e => (e.1.getD 0, e.2.getD 0)
theorem dedS_nd (l : List Int) : (dedS l).Nodup := (dedS_up l).imp fun h e => by omega
section
variable {es : List Edge} (hn : (none, none) ∉ es)
include hn
theorem mustR_mem {r : Int} : r ∈ mustR es ↔ (some r, none) ∈ es := by
  unfold mustR
  rw [dedS_mem, List.mem_map]
  constructor
  · rintro ⟨⟨a, b⟩, h, e⟩
    obtain ⟨h1, h2⟩ := List.mem_filter.mp h
    cases b with
    | some b => cases h2
    | none =>
      cases a with
      | none => exact absurd h1 hn
      | some a => dsimp only [Option.getD_some] at e; subst e; exact h1
  · intro h
    exact ⟨_, List.mem_filter.mpr ⟨h, rfl⟩, rfl⟩
theorem mustC_mem {c : Int} : c ∈ mustC es ↔ (none, some c) ∈ es := by
  unfold mustC
  rw [dedS_mem, List.mem_map]
  constructor
  · rintro ⟨⟨a, b⟩, h, e⟩
    obtain ⟨h1, h2⟩ := List.mem_filter.mp h
    cases a with
    | some a => cases h2
    | none =>
      cases b with
      | none => exact absurd h1 hn
      | some b => dsimp only [Option.getD_some] at e; subst e; exact h1
  · intro h
    exact ⟨_, List.mem_filter.mpr ⟨h, rfl⟩, rfl⟩
omit hn in
theorem restE_mem {r c : Int} : (r, c) ∈ restE es ↔ (some r, some c) ∈ es ∧ r ∉ mustR es ∧ c ∉ mustC es := by
  unfold restE
  rw [List.mem_map]
  constructor
  · rintro ⟨⟨a, b⟩, h, e⟩
    obtain ⟨h1, h2⟩ := List.mem_filter.mp h
    cases a with
    | none => cases h2
    | some a =>
      cases b with
      | none => cases h2
      | some b =>
        cases e
        simp only [Option.isSome_some, Option.getD_some, Bool.and_self, Bool.true_and, Bool.and_eq_true, Bool.not_eq_true', decide_eq_false_iff_not] at h2
        exact ⟨h1, h2.1, h2.2⟩
  · rintro ⟨h, h1, h2⟩
    refine ⟨_, List.mem_filter.mpr ⟨h, ?_⟩, rfl⟩
    simp [h1, h2]
theorem both_max {Mp : List (Wire × Wire)} {Ml : List (Int × Int)} (hp : Mat (es.map pEdge) Mp) (fp : ∀ M, Mat (es.map pEdge) M → M.length ≤ Mp.length) (hl : Mat (restE es) Ml) (fl : ∀ M, Mat (restE es) M → M.length ≤ Ml.length) : Mp.length = (mustR es).length + (mustC es).length + Ml.length := by
  have rc : sRow ≠ sCol := by decide
  have rl : sRow ≠ sLone := by decide
  have cl : sCol ≠ sLone := by decide
  refine Nat.le_antisymm ?_ ?_
  · -- every pair of Mp is counted
    let isA : Wire × Wire → Bool := fun e => decide (e.1.1 = sRow) && decide (e.2.1 = sCol) && !decide (e.1.2 ∈ mustR es) && !decide (e.2.2 ∈ mustC es)
    have hsplit : (Mp.filter isA).length + (Mp.filter fun e => !isA e).length = Mp.length := by
      clear hp fp
      induction Mp with
      | nil => rfl
      | cons e M ih =>
        rw [List.filter_cons, List.filter_cons]; cases isA e <;> simp <;> omega
    have hA : (Mp.filter isA).length ≤ Ml.length := by
      have : Mat (restE es) ((Mp.filter isA).map fun e => (e.1.2, e.2.2)) := by
        have frm : ∀ e ∈ Mp.filter isA, e.1.1 = sRow ∧ e.2.1 = sCol ∧ (some e.1.2, some e.2.2) ∈ es ∧ e.1.2 ∉ mustR es ∧ e.2.2 ∉ mustC es := by
          intro e he
          obtain ⟨h1, h2⟩ := List.mem_filter.mp he
          simp only [isA, Bool.and_eq_true, decide_eq_true_eq, Bool.not_eq_true', decide_eq_false_iff_not] at h2
          obtain ⟨⟨⟨h3, h4⟩, h5⟩, h6⟩ := h2
          refine ⟨h3, h4, ?_, h5, h6⟩
          obtain ⟨⟨a, b⟩, hm, rfl⟩ := List.mem_map.mp (hp.sub e h1)
          cases a with
          | none => exact absurd h3.symm rl
          | some a =>
            cases b with
            | none => exact absurd h4.symm cl
            | some b => exact hm
        refine ⟨fun x hx => ?_, ?_, ?_⟩
        · obtain ⟨e, he, rfl⟩ := List.mem_map.mp hx
          obtain ⟨_, _, h⟩ := frm e he
          exact restE_mem.mpr h
        · rw [List.map_map]
          refine nodup_mapOn (nodup_ofMap (hp.l.sublist (List.filter_sublist.map _))) fun a ha b hb e => ?_
          refine map_inj hp.l (List.mem_filter.mp ha).1 (List.mem_filter.mp hb).1 (Prod.ext ?_ e)
          rw [(frm a ha).1, (frm b hb).1]
        · rw [List.map_map]
          refine nodup_mapOn (nodup_ofMap (hp.l.sublist (List.filter_sublist.map _))) fun a ha b hb e => ?_
          refine map_inj hp.r (List.mem_filter.mp ha).1 (List.mem_filter.mp hb).1 (Prod.ext ?_ e)
          rw [(frm a ha).2.1, (frm b hb).2.1]
      have := fl _ this
      rw [List.length_map] at this
      exact this
    have hB : (Mp.filter fun e => !isA e).length ≤ (mustR es).length + (mustC es).length := by
      let ψ : Wire × Wire → Wire := fun e => if e.1.1 = sRow ∧ e.1.2 ∈ mustR es then e.1 else e.2
      have frm : ∀ e ∈ Mp.filter (fun e => !isA e), (e.1.1 = sRow ∧ e.1.2 ∈ mustR es) ∨ (¬ (e.1.1 = sRow ∧ e.1.2 ∈ mustR es) ∧ e.2.1 = sCol ∧ e.2.2 ∈ mustC es) := by
        intro e he
        obtain ⟨h1, h2⟩ := List.mem_filter.mp he
        obtain ⟨⟨a, b⟩, hm, rfl⟩ := List.mem_map.mp (hp.sub e h1)
        by_cases hR : (pEdge (a, b)).1.1 = sRow ∧ (pEdge (a, b)).1.2 ∈ mustR es
        · exact .inl hR
        · refine .inr ⟨hR, ?_⟩
          cases a with
          | none =>
            cases b with
            | none => exact absurd hm hn
            | some b => exact ⟨rfl, (mustC_mem hn).mpr hm⟩
          | some a =>
            cases b with
            | none => exact absurd ⟨rfl, (mustR_mem hn).mpr hm⟩ hR
            | some b =>
              refine ⟨rfl, Classical.byContradiction fun hc => ?_⟩
              have h3 : a ∉ mustR es := fun h => hR ⟨rfl, h⟩
              have : isA (pEdge (some a, some b)) = true := by
                show (decide (sRow = sRow) && decide (sCol = sCol) && !decide (a ∈ mustR es) && !decide (b ∈ mustC es)) = true
                have hc : b ∉ mustC es := hc
                simp [h3, hc]
              rw [this] at h2
              cases h2
      have hnd : ((Mp.filter fun e => !isA e).map ψ).Nodup := by
        refine nodup_mapOn (nodup_ofMap (hp.l.sublist (List.filter_sublist.map _))) fun a ha b hb e => ?_
        have e : (if a.1.1 = sRow ∧ a.1.2 ∈ mustR es then a.1 else a.2) = (if b.1.1 = sRow ∧ b.1.2 ∈ mustR es then b.1 else b.2) := e
        have ha1 := (List.mem_filter.mp ha).1
        have hb1 := (List.mem_filter.mp hb).1
        rcases frm a ha with ta | ⟨ta, ta2, _⟩ <;> rcases frm b hb with tb | ⟨tb, tb2, _⟩
        · rw [if_pos ta, if_pos tb] at e
          exact map_inj hp.l ha1 hb1 e
        · rw [if_pos ta, if_neg tb] at e
          exact absurd (ta.1.symm.trans ((congrArg Prod.fst e).trans tb2)) rc
        · rw [if_neg ta, if_pos tb] at e
          exact absurd (tb.1.symm.trans ((congrArg Prod.fst e).symm.trans ta2)) rc
        · rw [if_neg ta, if_neg tb] at e
          exact map_inj hp.r ha1 hb1 e
      have := nodup_len (m := (mustR es).map (fun r => (sRow, r)) ++ (mustC es).map (fun c => (sCol, c))) hnd fun x hx => by
        obtain ⟨e, he, rfl⟩ := List.mem_map.mp hx
        rw [List.mem_append]
        rcases frm e he with te | ⟨te, te2, te3⟩
        · left
          show (if e.1.1 = sRow ∧ e.1.2 ∈ mustR es then e.1 else e.2) ∈ _
          rw [if_pos te]
          exact List.mem_map.mpr ⟨e.1.2, te.2, Prod.ext te.1.symm rfl⟩
        · right
          show (if e.1.1 = sRow ∧ e.1.2 ∈ mustR es then e.1 else e.2) ∈ _
          rw [if_neg te]
          exact List.mem_map.mpr ⟨e.2.2, te3, Prod.ext te2.symm rfl⟩
      simpa using this
    omega
  · -- the law's pairs make a matching of the program's
    let M : List (Wire × Wire) := Ml.map (fun e => ((sRow, e.1), (sCol, e.2))) ++ ((mustR es).map (fun r => ((sRow, r), (sLone, r))) ++ (mustC es).map (fun c => ((sLone, c), (sCol, c))))
    have hM : Mat (es.map pEdge) M := by
      have fl' : ∀ e ∈ Ml, (some e.1, some e.2) ∈ es ∧ e.1 ∉ mustR es ∧ e.2 ∉ mustC es := fun e he => restE_mem.mp (hl.sub e he)
      refine ⟨fun x hx => ?_, ?_, ?_⟩
      · rcases List.mem_append.mp hx with h | h
        · obtain ⟨e, he, rfl⟩ := List.mem_map.mp h
          exact List.mem_map.mpr ⟨_, (fl' e he).1, rfl⟩
        · rcases (List.mem_append.mp h) with h | h
          · obtain ⟨r, hr, rfl⟩ := List.mem_map.mp h
            exact List.mem_map.mpr ⟨_, (mustR_mem hn).mp hr, rfl⟩
          · obtain ⟨c, hc, rfl⟩ := List.mem_map.mp h
            exact List.mem_map.mpr ⟨_, (mustC_mem hn).mp hc, rfl⟩
      · show (List.map Prod.fst (_ ++ (_ ++ _))).Nodup
        rw [List.map_append, List.map_append, List.map_map, List.map_map, List.map_map]
        refine List.nodup_append.mpr ⟨?_, List.nodup_append.mpr ⟨?_, ?_, ?_⟩, ?_⟩
        · exact nodup_mapOn (nodup_ofMap hl.l) fun a ha b hb e => map_inj hl.l ha hb (Prod.ext_iff.mp e).2
        · exact nodup_mapOn (dedS_nd _) fun a _ b _ e => (Prod.ext_iff.mp e).2
        · exact nodup_mapOn (dedS_nd _) fun a _ b _ e => (Prod.ext_iff.mp e).2
        · intro a ha b hb e
          obtain ⟨_, _, rfl⟩ := List.mem_map.mp ha
          obtain ⟨_, _, rfl⟩ := List.mem_map.mp hb
          exact rl (Prod.ext_iff.mp e).1
        · intro a ha b hb e
          obtain ⟨x, hx, rfl⟩ := List.mem_map.mp ha; rcases List.mem_append.mp hb with hb | hb
          · obtain ⟨r, hr, rfl⟩ := List.mem_map.mp hb
            have : x.1 = r := (Prod.ext_iff.mp e).2
            exact (fl' x hx).2.1 (this ▸ hr)
          · obtain ⟨_, _, rfl⟩ := List.mem_map.mp hb
            exact rl (Prod.ext_iff.mp e).1
      · show (List.map Prod.snd (_ ++ (_ ++ _))).Nodup
        rw [List.map_append, List.map_append, List.map_map, List.map_map, List.map_map]
        refine List.nodup_append.mpr ⟨?_, List.nodup_append.mpr ⟨?_, ?_, ?_⟩, ?_⟩
        · exact nodup_mapOn (nodup_ofMap hl.l) fun a ha b hb e => map_inj hl.r ha hb (Prod.ext_iff.mp e).2
        · exact nodup_mapOn (dedS_nd _) fun a _ b _ e => (Prod.ext_iff.mp e).2
        · exact nodup_mapOn (dedS_nd _) fun a _ b _ e => (Prod.ext_iff.mp e).2
        · intro a ha b hb e
          obtain ⟨_, _, rfl⟩ := List.mem_map.mp ha
          obtain ⟨_, _, rfl⟩ := List.mem_map.mp hb
          exact cl (Prod.ext_iff.mp e).1.symm
        · intro a ha b hb e
          obtain ⟨x, hx, rfl⟩ := List.mem_map.mp ha; rcases List.mem_append.mp hb with hb | hb
          · obtain ⟨_, _, rfl⟩ := List.mem_map.mp hb
            exact cl (Prod.ext_iff.mp e).1
          · obtain ⟨c, hc, rfl⟩ := List.mem_map.mp hb
            have : x.2 = c := (Prod.ext_iff.mp e).2
            exact (fl' x hx).2.2 (this ▸ hc)
    have := fp _ hM
    simp only [M, List.length_append, List.length_map] at this
    omega
end
/-! ### the size of the greatest -/
section
variable {α β : Type} [DecidableEq α] [DecidableEq β]
theorem mat_len {E M : List (α × β)} (h : Mat E M) : M.length ≤ E.length := by
  have := nodup_len (m := E.map Prod.fst) h.l fun x hx => by
    obtain ⟨y, hy, rfl⟩ := List.mem_map.mp hx; exact List.mem_map.mpr ⟨y, h.sub y hy, rfl⟩
  simpa using this
theorem max_ex (E : List (α × β)) : ∃ n, (∃ M, Mat E M ∧ M.length = n) ∧ ∀ M, Mat E M → M.length ≤ n := by
  have : ∀ k, (∃ M, Mat E M ∧ E.length ≤ M.length + k) → ∃ n, (∃ M, Mat E M ∧ M.length = n) ∧ ∀ M, Mat E M → M.length ≤ n := by
    intro k
    induction k with
    | zero =>
      rintro ⟨M, hM, hk⟩
      exact ⟨M.length, ⟨M, hM, rfl⟩, fun M' h' => by have := mat_len h'; omega⟩
    | succ k ih =>
      rintro ⟨M, hM, hk⟩
      by_cases h : ∃ M', Mat E M' ∧ M.length < M'.length
      · obtain ⟨M', h1, h2⟩ := h
        exact ih ⟨M', h1, by omega⟩
      · exact ⟨M.length, ⟨M, hM, rfl⟩, fun M' h' => Classical.byContradiction fun hn => h ⟨M', h', by omega⟩⟩
  exact this E.length ⟨[], ⟨fun _ h => (by cases h), List.nodup_nil, List.nodup_nil⟩, by simp⟩
noncomputable def maxN (E : List (α × β)) : Nat := Classical.choose (max_ex E)
theorem maxN_is (E : List (α × β)) : (∃ M, Mat E M ∧ M.length = maxN E) ∧ ∀ M, Mat E M → M.length ≤ maxN E := Classical.choose_spec (max_ex E)
theorem maxN_full {E M : List (α × β)} (hm : Mat E M) (hf : Full E M) : M.length = maxN E := by
  obtain ⟨⟨M', h1, h2⟩, h3⟩ := maxN_is E
  exact Nat.le_antisymm (h3 M hm) (by rw [← h2]; exact full_max hm hf h1)
end
noncomputable def fewN (es : List Edge) : Nat := (mustR es).length + (mustC es).length + maxN (restE es)
theorem few_eq {es : List Edge} (hn : (none, none) ∉ es) : maxN (es.map pEdge) = fewN es := by
  obtain ⟨⟨Mp, h1, h2⟩, h3⟩ := maxN_is (es.map pEdge)
  obtain ⟨⟨Ml, h4, h5⟩, h6⟩ := maxN_is (restE es)
  have := both_max hn h1 (fun M h => by rw [h2]; exact h3 M h) h4 (fun M h => by rw [h5]; exact h6 M h)
  unfold fewN
  rw [← h2, ← h5]
  exact this
end K31
namespace K31
open L2 PySem PySem.Spec PyProof.Rows
/-! ### dicts from ints to ints -/
def kvI (m : List (Int × Int)) : List (Key × V) := m.map fun e => (Sum.inl e.1, V.int e.2)
def DictI (H : Hp) (a : Addr) (m : List (Int × Int)) : Prop := H a = some (.dK (kvI m))
def DictIR (H : Hp) (a : Addr) (m : List (Int × Int)) : Prop := Rd H a (.dK (kvI m))
theorem kvI_get (k : Int) : ∀ m : List (Int × Int), valV (kvI m) (.inl k) = (getM m k).map V.int
  | [] => rfl
  | e :: m => by
    have ih := kvI_get k m
    unfold kvI getM at *
    by_cases h : e.1 = k
    · rw [List.map_cons, valV_pos (by rw [h]), List.find?_cons]
      simp [h]
    · rw [List.map_cons, valV_neg (fun z => h (Sum.inl.inj z)), ih, List.find?_cons]
      simp only [decide_eq_false h]
theorem kvI_put (k v : Int) (m : List (Int × Int)) : putK (kvI m) (.inl k) (.int v) = kvI (putM m k v) := by
  unfold putK putM kvI
  have : ((m.map fun e => ((Sum.inl e.1 : Key), V.int e.2)).any fun kv => decide (kv.1 = Sum.inl k)) = m.any fun e => decide (e.1 = k) := by
    rw [List.any_map]
    congr 1
    funext e
    exact bool_iff (by simp [Function.comp])
  rw [this]
  split
  · rw [List.map_map, List.map_map]
    refine List.map_congr_left fun e _ => ?_
    by_cases h : e.1 = k
    · simp [h]
    · simp [h]
  · rw [List.map_append]; rfl
theorem DictI.r {H : Hp} {a : Addr} {m : List (Int × Int)} (h : DictI H a m) : DictIR H a m := .inl h
theorem DictI.same {H H' : Hp} {a : Addr} {m : List (Int × Int)} (h : DictI H a m) (s : Same H H') : DictI H' a m := s _ _ h
theorem DictIR.same {H H' : Hp} {a : Addr} {m : List (Int × Int)} (h : DictIR H a m) (s : Same H H') : DictIR H' a m := h.elim (fun e => .inl (s _ _ e)) fun ⟨o, e⟩ => .inr ⟨o, s _ _ e⟩
theorem DictIR.get {H : Hp} {a : Addr} {m : List (Int × Int)} (h : DictIR H a m) (k : Int) : DGet H a (.int k) ((getM m k).map V.int) := .inl ⟨_, .inl k, h, rfl, (kvI_get k m).symm⟩
section
variable {X : Cx} {Hz : Hp} {ρ : Rho} {e a b c o i tg it elt : Expr} {es : List Expr} {ifs : List Expr} {scope : Scope} {pos p pp pos2 tpos : Pos} {k n : Nat} {σ : L2.St} {H : Hp} {D' : Ends} {rest body u v : List Stmt} {m : List (Int × Int)} {l : Addr} {x d : Int}
theorem er_iget (G : GX X k) (hm : DictIR Hz l m) (ha : ED X Hz ρ a (rf l).p) (hb : ER X Hz ρ b (.int x)) (hx : getM m x = some d) (hs : NoSl b := by exact fun _ _ => rfl) : ER X Hz ρ (.Subscript a b pos) (.int d) := by
  refine .by (pe_dget G.hu pe_W pe_W hs) fun σ H Q E q => ?_
  refine ha.run σ H _ E fun v H1 s1 ev => ?_
  obtain rfl : v = .ref l := ev
  refine hb.run σ H1 _ (E.same s1) fun y H2 s2 ry => ?_
  cases ry
  have g := (hm.same ((E.s0.trans s1).trans s2)).get x
  rw [hx] at g
  exact ⟨l, .int d, rfl, g, q _ H2 (s1.trans s2) (.int _)⟩
theorem td_inin (G : GX X k) (hm : DictIR Hz l m) (hb : ED X Hz ρ b (rf l).p) (ha : ER X Hz ρ a (.int x)) (hh : behindInMarks .NotIn b = false := by rfl) : TD X Hz ρ (.Compare a [.NotIn] [b] pos) (!(getM m x).isSome) := by
  refine .by (pt_cmp (pc_dnotin G.hu pe_W pe_W) hh) fun σ H Q E q => ?_
  refine ha.run σ H _ E fun y H1 s1 ry => ?_
  refine hb.run σ H1 _ (E.same s1) fun v H2 s2 ev => ?_
  obtain rfl : v = .ref l := ev
  cases ry
  exact ⟨l, _, rfl, (hm.same ((E.s0.trans s1).trans s2)).get x, ⟨_, rfl, by rw [Option.isSome_map]; exact q H2 (s1.trans s2)⟩⟩
theorem s_iput {pos' : Pos} (G : GX X k) (E : Env ρ σ H) (hm : DictI H l m) (hz : m.length < 100000) (ha : ED X H ρ a (rf l).p) (hb : ER X H ρ b (.int x)) (hv : ER X H ρ e (.int d))
    (q : ∀ H', SameBut l H H' → DictI H' l (putM m x d) → Env ρ σ H' → WSs X rest D' σ H') (hs : swapsWith e (some (.Subscript a b pos')) pos.line X.env = pure false := by rfl) : WSs X (.Assign [.Subscript a b pos'] e pos :: rest) D' σ H := by
  refine s_cons (.by (ps_dput G.hu pe_W pe_W pe_W hs) ?_)
  refine hv.run σ H _ E.en fun w H1 s1 rw' => ?_
  refine ha.run σ H1 _ (E.en.same s1) fun y H2 s2 ev => ?_
  obtain rfl : y = .ref l := ev
  refine hb.run σ H2 _ (E.en.same (s1.trans s2)) fun y H3 s3 ry => ?_
  cases rw'; cases ry
  have s13 := (s1.trans s2).trans s3
  have hl := hm.same s13
  have le3 : Le H3 (upd H3 l (.dK (putK (kvI m) (.inl x) (.int d)))) := Le.upd hl rfl
  refine ⟨l, _, rfl, .inl ⟨_, .inl x, hl, rfl, ?_, rfl⟩, ?_⟩
  · unfold kvI; rw [List.length_map]; exact Nat.lt_of_lt_of_le hz (by decide)
  · refine q _ ((SameBut.of s13).trans .upd) ?_ ((E.same s13).le le3)
    rw [kvI_put]
    exact upd_same
/-- x = {}, ints -/
theorem s_while (hp : PassesOwn (model X.prog X.w) X.A X.env X.xe) (W : Nat → L2.St → Hp → Prop) {m0 : Nat} (w0 : W m0 σ H)
    (h : ∀ m σ H, W m σ H → ∃ ρ b, Env ρ σ H ∧ TD X H ρ c b ∧ (b = true → ∀ H', Same H H' → Env ρ σ H' → WSs X body { D' with nx := fun σ' H' => ∃ m', m' < m ∧ W m' σ' H', ct := fun σ' H' => ∃ m', m' < m ∧ W m' σ' H', bk := fun σ' H' => WSs X rest D' σ' H' } σ H') ∧
      (b = false → ∀ H', Same H H' → Env ρ σ H' → WSs X rest D' σ H')) : WSs X (.While c body [] pos :: rest) D' σ H := by
  refine s_cons (.by (ps_while hp pt_W pss_W) ⟨W, ⟨m0, w0⟩, fun m σ H w => ?_⟩)
  obtain ⟨ρ, b, E, hc, h1, h2⟩ := h m σ H w
  refine hc.run σ H _ E.en fun H' s => ?_
  cases b with
  | true => exact iteT ⟨_, fun _ _ z => z, h1 rfl H' s (E.same s)⟩
  | false => exact iteF (h2 rfl H' s (E.same s))
/-! ### a comprehension over a dict -/
def D.flat : D → Bool
  | .non => true
  | .bl _ => true
  | .int _ => true
  | .str _ => true
  | _ => false
theorem RepL.keep {H H' : Hp} : ∀ {ds : List D} {vs : List V}, ds.all D.flat = true → RepL H ds vs → RepL H' ds vs
  | [], _, _, .nil => .nil
  | d :: ds, _, h, .cons r t => by
    rw [List.all_cons, Bool.and_eq_true] at h; refine .cons ?_ (RepL.keep h.2 t)
    cases d with
    | non => cases r; exact .non
    | bl b => cases r; exact .bl _
    | int i => cases r; exact .int _
    | str s => cases r; exact .str _
    | tup ds => cases h.1
    | any => cases h.1
    | obj P => cases h.1
theorem flat_ints (l : List Int) : (l.map D.int).all D.flat = true := by rw [List.all_map]; exact List.all_eq_true.mpr fun _ _ => rfl
/-- the dict is locked while the list is made -/
theorem we_lock {ds : List D} {u : HO} (hfl : ds.all D.flat = true) (hd : H l = some u) (mu : Mut (some u)) (hi : Imm u = false) (E : Env ρ σ H) (h : ∀ od, ED X (upd H l (.frz od u)) ρ e (Lst ds)) {Q : VK} (q : ∀ v H', Same H H' → Lst ds H' v → Q v H') (ht : ∀ xs, u ≠ .tup xs := by intro _ z; cases z) (hlst : ∀ xs, u ≠ .lst xs := by intro _ z; cases z) : WE X e σ H Q := by
  refine .by (pe_lock pe_W) ⟨l, u, hd, mu, fun od => ?_⟩
  have le0 : Le H (upd H l (.frz od u)) := Le.upd hd hi
  refine (h od).run σ _ _ ⟨Same.refl _, E.le le0⟩ fun v H' s ⟨a, vs, ev, ha, r⟩ => ?_
  subst ev
  have hl' := s _ _ (upd_same (H := H) (a := l) (o := .frz od u))
  have hal : a ≠ l := by intro z; subst z; rw [hl'] at ha; cases ha
  refine ⟨hl', q _ _ (fun b o hb => ?_) ⟨a, vs, rfl, by rw [upd_ne hal]; exact ha, r.keep hfl⟩⟩
  · by_cases hbl : b = l
    · subst hbl; rw [hd] at hb; cases hb; exact upd_same
    · rw [upd_ne hbl]; exact s b o (by rw [upd_ne hbl]; exact hb)
theorem src_ikeys {od : Obj} (h : ED X Hz ρ it (rf l).p) (hl : Hz l = some (.frz od (.dK (kvI m)))) : Src X Hz ρ tg it (m.map fun e => .int e.1) := by
  refine ⟨fun σ H R E q => .by (pi_keys pe_W) ?_⟩
  refine h.run σ H _ E fun v H1 s1 ev => ?_
  obtain rfl : v = .ref l := ev
  have h1 := (E.s0.trans s1) _ _ hl
  refine ⟨l, od, rfl, .inl ⟨_, h1, q _ H1 (fun H => H l = some (.frz od (.dK (kvI m)))) s1 h1 (fun Ha Hb s g => s _ _ g) ?_⟩⟩
  have e : (m.map fun e => D.int e.1).length = (kvI m).length := by unfold kvI; rw [List.length_map, List.length_map]
  rw [e]
  refine ⟨fun i H hi g => ⟨g, hi⟩, fun H g => ⟨g, Nat.le_refl _⟩, fun i Ha v Hb hi g y => ?_⟩
  obtain ⟨rfl, k', v', hk, rfl⟩ := y
  obtain ⟨x, hx, e2⟩ := get_map hk
  cases e2
  exact ⟨Same.refl _, .int x.1, by rw [List.getElem?_map, hx]; rfl, fun _ => .int _⟩
end
end K31
namespace K31
open L2 PySem PySem.Spec PyProof.Rows
/-! ### a matching kept as a table right -> left -/
section
variable {α β : Type} [DecidableEq α] [DecidableEq β]
structure GM (E : List (α × β)) (m : List (β × α)) : Prop where
  k : (m.map Prod.fst).Nodup
  v : (m.map Prod.snd).Nodup
  e : ∀ x ∈ m, (x.2, x.1) ∈ E
def flipM (m : List (β × α)) : List (α × β) := m.map fun x => (x.2, x.1)
theorem flip_mem {m : List (β × α)} {l : α} {r : β} : (l, r) ∈ flipM m ↔ (r, l) ∈ m := by
  unfold flipM
  rw [List.mem_map]
  exact ⟨fun ⟨x, h, e⟩ => by cases e; exact h, fun h => ⟨_, h, rfl⟩⟩
theorem GM.mat {E : List (α × β)} {m : List (β × α)} (h : GM E m) : Mat E (flipM m) where
  sub x hx := by
    obtain ⟨y, hy, rfl⟩ := List.mem_map.mp hx; exact h.e y hy
  l := by unfold flipM; rw [List.map_map]; exact h.v
  r := by unfold flipM; rw [List.map_map]; exact h.k
theorem getM_some {γ δ : Type} [DecidableEq γ] {m : List (γ × δ)} {k : γ} {v : δ} (h : getM m k = some v) : (k, v) ∈ m := by
  unfold getM at h
  cases e : m.find? (fun x => decide (x.1 = k)) with
  | none => (rw [e] at h; cases h)
  | some x =>
    rw [e] at h
    have h1 := List.mem_of_find?_eq_some e
    have h2 : x.1 = k := by have := List.find?_some e; exact of_decide_eq_true this
    have h3 : x.2 = v := Option.some.inj h
    rw [← h2, ← h3]; exact h1
theorem getM_none {γ δ : Type} [DecidableEq γ] {m : List (γ × δ)} {k : γ} (h : getM m k = none) : k ∉ m.map Prod.fst := by
  intro hm
  obtain ⟨x, hx, e⟩ := List.mem_map.mp hm
  unfold getM at h
  cases e2 : m.find? (fun x => decide (x.1 = k)) with
  | none => exact absurd (decide_eq_true e) (List.find?_eq_none.mp e2 x hx)
  | some x => rw [e2] at h; cases h
theorem getM_mem {γ δ : Type} [DecidableEq γ] {m : List (γ × δ)} {k : γ} {v : δ} (hn : (m.map Prod.fst).Nodup) (h : (k, v) ∈ m) : getM m k = some v := by
  cases e : getM m k with
  | none => exact absurd (List.mem_map.mpr ⟨_, h, rfl⟩) (getM_none e)
  | some v' =>
    have := snd_eq' hn (getM_some e) h
    rw [this]
where
  snd_eq' {m : List (γ × δ)} (hn : (m.map Prod.fst).Nodup) {k : γ} {v v' : δ} (h1 : (k, v) ∈ m) (h2 : (k, v') ∈ m) : v = v' := by
    have := map_inj hn h1 h2 rfl
    exact (Prod.ext_iff.mp this).2
theorem getM_isSome {γ δ : Type} [DecidableEq γ] {m : List (γ × δ)} {k : γ} : (getM m k).isSome = true ↔ k ∈ m.map Prod.fst := by
  constructor
  · intro h
    obtain ⟨v, e⟩ := Option.isSome_iff_exists.mp h
    exact List.mem_map.mpr ⟨_, getM_some e, rfl⟩
  · intro h
    cases e : getM m k with
    | none => exact absurd h (getM_none e)
    | some v => rfl
theorem putM_new {γ δ : Type} [DecidableEq γ] {m : List (γ × δ)} {k : γ} (v : δ) (h : k ∉ m.map Prod.fst) : putM m k v = m ++ [(k, v)] := by
  unfold putM
  rw [if_neg]
  intro h2
  obtain ⟨x, hx, e⟩ := List.any_eq_true.mp h2
  exact h (List.mem_map.mpr ⟨x, hx, of_decide_eq_true e⟩)
theorem putM_perm {γ δ : Type} [DecidableEq γ] (k : γ) (v : δ) : ∀ {m : List (γ × δ)}, (m.map Prod.fst).Nodup → (putM m k v).Perm ((k, v) :: m.filter fun x => !decide (x.1 = k)) := by
  intro m hn
  by_cases hk : k ∈ m.map Prod.fst
  · unfold putM
    have hany : (m.any fun e => decide (e.1 = k)) = true := by
      obtain ⟨x, hx, e⟩ := List.mem_map.mp hk
      exact List.any_eq_true.mpr ⟨x, hx, decide_eq_true e⟩
    rw [if_pos hany]
    clear hany
    induction m with
    | nil => cases hk
    | cons e m ih =>
      rw [List.map_cons, List.nodup_cons] at hn; by_cases h : e.1 = k
      · have hm : ∀ x ∈ m, ¬ x.1 = k := fun x hx z => hn.1 (List.mem_map.mpr ⟨x, hx, z.trans h.symm⟩)
        have e1 : m.map (fun e => if e.1 = k then (e.1, v) else e) = m := by
          have : m.map (fun e => if e.1 = k then (e.1, v) else e) = m.map id := List.map_congr_left fun x hx => by rw [if_neg (hm x hx)]; rfl
          rw [this, List.map_id]
        have e2 : m.filter (fun x => !decide (x.1 = k)) = m := List.filter_eq_self.mpr fun x hx => by simp [hm x hx]
        rw [List.map_cons, if_pos h, e1, List.filter_cons, if_neg (by simp [h]), e2, h]
      · have hk' : k ∈ m.map Prod.fst := by
          rcases List.mem_cons.mp hk with z | z
          · exact absurd z.symm h
          · exact z
        rw [List.map_cons, if_neg h, List.filter_cons, if_pos (by simp [h])]
        exact ((ih hn.2 hk').cons e).trans (.swap _ _ _)
  · rw [putM_new v hk]
    have e2 : m.filter (fun x => !decide (x.1 = k)) = m := List.filter_eq_self.mpr fun x hx => by
      have : ¬ x.1 = k := fun z => hk (List.mem_map.mpr ⟨x, hx, z⟩)
      simp [this]
    rw [e2]
    exact List.perm_append_comm
theorem putM_keys {γ δ : Type} [DecidableEq γ] {k : γ} {v : δ} {m : List (γ × δ)} (hn : (m.map Prod.fst).Nodup) : ((putM m k v).map Prod.fst).Nodup := by
  rw [((putM_perm k v hn).map Prod.fst).nodup_iff, List.map_cons, List.nodup_cons]
  refine ⟨fun h => ?_, hn.sublist (List.filter_sublist.map _)⟩
  obtain ⟨x, hx, e⟩ := List.mem_map.mp h
  have := (List.mem_filter.mp hx).2
  have e : x.1 = k := e
  simp [e] at this
/-- taking out the entry of a key -/
theorem split_key {γ δ : Type} [DecidableEq γ] {m : List (γ × δ)} (hn : (m.map Prod.fst).Nodup) {k : γ} {v : δ} (h : (k, v) ∈ m) : m.Perm ((k, v) :: m.filter fun x => !decide (x.1 = k)) := by
  induction m with
  | nil => cases h
  | cons e m ih =>
    rw [List.map_cons, List.nodup_cons] at hn; by_cases he : e.1 = k
    · have hm : ∀ x ∈ m, ¬ x.1 = k := fun x hx z => hn.1 (List.mem_map.mpr ⟨x, hx, z.trans he.symm⟩)
      have e2 : m.filter (fun x => !decide (x.1 = k)) = m := List.filter_eq_self.mpr fun x hx => by simp [hm x hx]
      have : e = (k, v) := by
        rcases (List.mem_cons.mp h) with z | z
        · exact z.symm
        · exact absurd rfl (hm _ z)
      rw [List.filter_cons, if_neg (by simp [he]), e2, this]
    · have h' : (k, v) ∈ m := by
        rcases (List.mem_cons.mp h) with z | z
        · exact absurd (congrArg Prod.fst z).symm he
        · exact z
      rw [List.filter_cons, if_pos (by simp [he])]
      exact ((ih hn.2 h').cons e).trans (.swap _ _ _)
/-- the table with c's entry aside holds the rows of m0 -/
structure Hole (E : List (α × β)) (m0 m : List (β × α)) (c : β) : Prop where
  k : (m.map Prod.fst).Nodup
  rows : ((m.filter fun x => !decide (x.1 = c)).map Prod.snd).Perm (m0.map Prod.snd)
  e : ∀ x ∈ m, (x.2, x.1) ∈ E
theorem Hole.start {E : List (α × β)} {m0 : List (β × α)} (h : GM E m0) {c : β} (hc : c ∉ m0.map Prod.fst) : Hole E m0 m0 c where
  k := h.k
  e := h.e
  rows := by
    rw [List.filter_eq_self.mpr fun x hx => ?_]
    have : ¬ x.1 = c := fun z => hc (List.mem_map.mpr ⟨x, hx, z⟩)
    simp [this]
/-- the walk ends at a left that is free -/
theorem Hole.close {E : List (α × β)} {m0 m : List (β × α)} {c : β} {l : α} (h : Hole E m0 m c) (hv : (m0.map Prod.snd).Nodup) (hl : l ∉ m0.map Prod.snd) (he : (l, c) ∈ E) : GM E (putM m c l) ∧ ((putM m c l).map Prod.snd).Perm (l :: m0.map Prod.snd) := by
  have p := putM_perm c l h.k
  have pv : ((putM m c l).map Prod.snd).Perm (l :: m0.map Prod.snd) := (p.map Prod.snd).trans (h.rows.cons l)
  refine ⟨⟨putM_keys h.k, ?_, fun x hx => ?_⟩, pv⟩
  · rw [pv.nodup_iff, List.nodup_cons]; exact ⟨hl, hv⟩
  · rcases List.mem_cons.mp (p.mem_iff.mp hx) with z | z
    · rw [z]; exact he
    · exact h.e x (List.mem_filter.mp z).1
/-- one step of the walk -/
theorem Hole.step {E : List (α × β)} {m0 m : List (β × α)} {c c2 : β} {l : α} (h : Hole E m0 m c) (hne : c2 ≠ c) (h2 : (c2, l) ∈ m) (he : (l, c) ∈ E) : Hole E m0 (putM m c l) c2 := by
  have p := putM_perm c l h.k
  refine ⟨putM_keys h.k, ?_, fun x hx => ?_⟩
  · have p1 := (p.filter fun x => !decide (x.1 = c2)).map Prod.snd
    rw [List.filter_cons, if_pos (by simp [Ne.symm hne])] at p1
    refine p1.trans (List.Perm.trans ?_ h.rows)
    have hR : ((m.filter fun x => !decide (x.1 = c)).map Prod.fst).Nodup := h.k.sublist (List.filter_sublist.map _)
    exact ((split_key hR (List.mem_filter.mpr ⟨h2, by simp [hne]⟩)).map Prod.snd).symm
  · rcases List.mem_cons.mp (p.mem_iff.mp hx) with z | z
    · rw [z]; exact he
    · exact h.e x (List.mem_filter.mp z).1
end
end K31
namespace K31
open L2 PySem PySem.Spec PyProof.Rows
/-! ### the law's search, level by level -/
section
variable {es : List (Int × Int)} {mp : List (Int × Int)} {start : Int}
def Vis (mp : List (Int × Int)) (start : Int) (came : List (Int × Int)) (r : Int) : Prop := r = start ∨ ∃ y ∈ came, (y.1, r) ∈ mp
/-- where each column came from -/
structure Came (es mp : List (Int × Int)) (start : Int) (came : List (Int × Int)) : Prop where
  ck : (came.map Prod.fst).Nodup
  ce : ∀ x ∈ came, (x.2, x.1) ∈ es
  par : ∀ (i : Nat) (x : Int × Int), came[i]? = some x → x.2 = start ∨ ∃ (j : Nat) (y : Int × Int), j < i ∧ came[j]? = some y ∧ (y.1, x.2) ∈ mp
structure BF (es mp : List (Int × Int)) (start : Int) (came : List (Int × Int)) (lev later : List Int) (done : List (Int × Int)) : Prop where
  c : Came es mp start came
  cm : ∀ x ∈ came, x.1 ∈ mp.map Prod.fst
  lv : ∀ r ∈ lev, Vis mp start came r
  lt : ∀ r ∈ later, Vis mp start came r
  cl : ∀ r, Vis mp start came r → r ∈ lev ∨ r ∈ later ∨ ∀ c, (r, c) ∈ es → c ∈ came.map Prod.fst
  dn : ∀ x ∈ done, x.2 ∈ came.map Prod.fst
theorem Came.len {came : List (Int × Int)} (h : Came es mp start came) : came.length ≤ es.length := by
  have := nodup_len (m := es.map Prod.snd) h.ck fun x hx => by
    obtain ⟨y, hy, rfl⟩ := List.mem_map.mp hx; exact List.mem_map.mpr ⟨_, h.ce y hy, rfl⟩
  simpa using this
theorem Vis.more {came : List (Int × Int)} {r : Int} (h : Vis mp start came r) (z : Int × Int) : Vis mp start (came ++ [z]) r := h.elim .inl fun ⟨y, hy, h⟩ => .inr ⟨y, List.mem_append_left _ hy, h⟩
theorem BF.init : BF es mp start [] [start] [] [] where
  c := ⟨List.nodup_nil, fun _ h => (by cases h), fun i x h => by simp at h⟩
  cm := fun _ h => (by cases h)
  lv := fun r h => .inl (List.mem_singleton.mp h)
  lt := fun _ h => (by cases h)
  cl := fun r h => h.elim (fun e => .inl (by rw [e]; exact List.mem_cons_self)) fun ⟨y, hy, _⟩ => (by cases hy)
  dn := fun _ h => (by cases h)
/-- a new column, from a row that was met -/
theorem Came.add {came : List (Int × Int)} (h : Came es mp start came) {r c : Int} (hv : Vis mp start came r) (hc : c ∉ came.map Prod.fst) (he : (r, c) ∈ es) : Came es mp start (came ++ [(c, r)]) where
  ck := by
    rw [List.map_append, List.nodup_append]; exact ⟨h.ck, List.nodup_cons.mpr ⟨by simp, List.nodup_nil⟩, fun a ha b hb e => by
      rw [List.map_singleton, List.mem_singleton] at hb
      rw [e, hb] at ha
      exact hc ha⟩
  ce := fun x hx => by
    rcases (List.mem_append.mp hx) with h1 | h1
    · exact h.ce x h1
    · rw [List.mem_singleton.mp h1]; exact he
  par := fun i x hx => by
    by_cases hi : i < came.length
    · rw [List.getElem?_append_left hi] at hx
      rcases h.par i x hx with e | ⟨j, y, hj, hy, hm⟩
      · exact .inl e
      · exact .inr ⟨j, y, hj, by rw [List.getElem?_append_left (by omega)]; exact hy, hm⟩
    · have hil := lt_of_get hx
      rw [List.length_append, List.length_singleton] at hil
      have hi' : i = came.length := by omega
      subst hi'
      rw [List.getElem?_append_right (Nat.le_refl _), Nat.sub_self] at hx
      cases hx
      rcases hv with e | ⟨y, hy, hm⟩
      · exact .inl e
      · obtain ⟨j, hj⟩ := List.mem_iff_getElem?.mp hy
        exact .inr ⟨j, y, lt_of_get hj, by rw [List.getElem?_append_left (lt_of_get hj)]; exact hj, hm⟩
theorem BF.skip {came : List (Int × Int)} {lev later : List Int} {done : List (Int × Int)} (h : BF es mp start came lev later done) {x : Int × Int} (hx : x.2 ∈ came.map Prod.fst) : BF es mp start came lev later (done ++ [x]) :=
  ⟨h.c, h.cm, h.lv, h.lt, h.cl, fun y hy => (List.mem_append.mp hy).elim (h.dn y) fun e => by rw [List.mem_singleton.mp e]; exact hx⟩
theorem BF.add (hv : (mp.map Prod.snd).Nodup) {came : List (Int × Int)} {lev later : List Int} {done : List (Int × Int)} (h : BF es mp start came lev later done) {r c r2 : Int} (hr : r ∈ lev) (hc : c ∉ came.map Prod.fst) (he : (r, c) ∈ es) (hm : (c, r2) ∈ mp) (hk : (mp.map Prod.fst).Nodup) :
    BF es mp start (came ++ [(c, r)]) lev (later ++ [r2]) (done ++ [(r, c)]) where
  c := h.c.add (h.lv r hr) hc he
  cm := fun x hx => by
    rcases (List.mem_append.mp hx) with h1 | h1
    · exact h.cm x h1
    · rw [List.mem_singleton.mp h1]; exact List.mem_map.mpr ⟨_, hm, rfl⟩
  lv := fun r hr => (h.lv r hr).more _
  lt := fun r' hr' => by
    rcases List.mem_append.mp hr' with h1 | h1
    · exact (h.lt r' h1).more _
    · rw [List.mem_singleton.mp h1]; exact .inr ⟨(c, r), List.mem_append_right _ List.mem_cons_self, hm⟩
  cl := fun r' hr' => by
    have old : Vis mp start came r' → r' ∈ lev ∨ r' ∈ later ++ [r2] ∨ ∀ c', (r', c') ∈ es → c' ∈ (came ++ [(c, r)]).map Prod.fst := fun hv' => by
      rcases h.cl r' hv' with h1 | h1 | h1
      · exact .inl h1
      · exact .inr (.inl (List.mem_append_left _ h1))
      · exact .inr (.inr fun c' hc' => by rw [List.map_append]; exact List.mem_append_left _ (h1 c' hc'))
    rcases hr' with e | ⟨y, hy, hym⟩
    · exact old (.inl e)
    · rcases List.mem_append.mp hy with h1 | h1
      · exact old (.inr ⟨y, h1, hym⟩)
      · rw [List.mem_singleton.mp h1] at hym
        have : r' = r2 := (Prod.ext_iff.mp (map_inj hk hym hm rfl)).2
        exact .inr (.inl (by rw [this]; exact List.mem_append_right _ List.mem_cons_self))
  dn := fun y hy => by
    rw [List.map_append]
    rcases List.mem_append.mp hy with h1 | h1
    · exact List.mem_append_left _ (h.dn y h1)
    · rw [List.mem_singleton.mp h1]; exact List.mem_append_right _ List.mem_cons_self
theorem BF.next {came : List (Int × Int)} {lev later : List Int} (h : BF es mp start came lev later (es.filter fun x => decide (x.1 ∈ lev))) : BF es mp start came later [] [] where
  c := h.c
  cm := h.cm
  lv := h.lt
  lt := fun _ h => (by cases h)
  cl := fun r hr => by
    rcases h.cl r hr with h1 | h1 | h1
    · exact .inr (.inr fun c hc => h.dn (r, c) (List.mem_filter.mpr ⟨hc, decide_eq_true h1⟩))
    · exact .inl h1
    · exact .inr (.inr h1)
  dn := fun _ h => (by cases h)
theorem BF.stuck (hg : GM es mp) {came : List (Int × Int)} (h : BF es mp start came [] [] []) : Stuck es (flipM mp) start (came.map Prod.fst) where
  all := fun c hc => by
    rcases h.cl start (.inl rfl) with h1 | h1 | h1
    · cases h1
    · cases h1
    · exact h1 c hc
  met := fun c hc => by
    obtain ⟨y, hy, rfl⟩ := List.mem_map.mp hc
    obtain ⟨z, hz, e⟩ := List.mem_map.mp (h.cm y hy)
    have hz' : (y.1, z.2) ∈ mp := by rw [← e]; exact hz
    refine ⟨z.2, flip_mem.mpr hz', fun c' hc' => ?_⟩
    rcases h.cl z.2 (.inr ⟨y, hy, hz'⟩) with h1 | h1 | h1
    · cases h1
    · cases h1
    · exact h1 c' hc'
/-- the walk back: at the i-th column -/
structure Back (es mp : List (Int × Int)) (start : Int) (came mk : List (Int × Int)) (i : Nat) (c : Int) : Prop where
  at_ : ∃ r, came[i]? = some (c, r)
  hole : Hole es mp mk c
  same : ∀ (j : Nat) (y : Int × Int), j ≤ i → came[j]? = some y → getM mk y.1 = getM mp y.1
theorem Back.next (hg : GM es mp) {came mk : List (Int × Int)} (hc : Came es mp start came) {i : Nat} {c r : Int} (h : Back es mp start came mk i c) (hr : came[i]? = some (c, r)) (hn : r ≠ start) :
    ∃ j c2, j < i ∧ Back es mp start came (putM mk c r) j c2 ∧ c2 ∈ (mk.filter fun x => decide (x.2 = r)).map Prod.fst ∧ ∀ k ∈ (mk.filter fun x => decide (x.2 = r)).map Prod.fst, k = c2 := by
  rcases hc.par i _ hr with e | ⟨j, y, hj, hy, hm⟩
  · exact absurd e hn
  · have hne : y.1 ≠ c := fun e => by
      have h1 := List.pairwise_iff_getElem.mp hc.ck
      have hj' := lt_of_get hy
      have hi' := lt_of_get hr
      have := h1 j i (by rw [List.length_map]; exact hj') (by rw [List.length_map]; exact hi') hj
      rw [List.getElem_map, List.getElem_map] at this
      rw [(List.getElem?_eq_some_iff.mp hy).2, (List.getElem?_eq_some_iff.mp hr).2] at this
      exact this e
    have hmk : getM mk y.1 = some r := by rw [h.same j y (by omega) hy]; exact getM_mem hg.k hm
    have hin := getM_some hmk
    refine ⟨j, y.1, hj, ⟨⟨y.2, hy⟩, h.hole.step hne hin (hc.ce _ (List.mem_of_getElem? hr)), fun j' y' hj' hy' => ?_⟩, ?_, fun k hk => ?_⟩
    · have hne' : y'.1 ≠ c := fun e => by
        have h1 := List.pairwise_iff_getElem.mp hc.ck
        have hj'' := lt_of_get hy'
        have hi' := lt_of_get hr
        have := h1 j' i (by rw [List.length_map]; exact hj'') (by rw [List.length_map]; exact hi') (by omega)
        rw [List.getElem_map, List.getElem_map] at this
        rw [(List.getElem?_eq_some_iff.mp hy').2, (List.getElem?_eq_some_iff.mp hr).2] at this
        exact this e
      rw [getM_put, if_neg hne']
      exact h.same j' y' (by omega) hy'
    · exact List.mem_map.mpr ⟨_, List.mem_filter.mpr ⟨hin, by simp⟩, rfl⟩
    · obtain ⟨x, hx, rfl⟩ := List.mem_map.mp hk
      obtain ⟨h1, h2⟩ := List.mem_filter.mp hx
      have h2 : x.2 = r := of_decide_eq_true h2
      by_cases hxc : x.1 = c
      · have e1 : getM mk c = some r := getM_mem h.hole.k (by rw [← hxc, ← h2]; exact h1)
        rw [h.same i _ (Nat.le_refl _) hr] at e1
        have := map_inj hg.v (getM_some e1) hm rfl
        exact absurd (Prod.ext_iff.mp this).1.symm hne
      · have hv : ((mk.filter fun x => !decide (x.1 = c)).map Prod.snd).Nodup := h.hole.rows.nodup_iff.mpr hg.v
        have := map_inj hv (x := x) (y := (y.1, r)) (List.mem_filter.mpr ⟨h1, by simp [hxc]⟩) (List.mem_filter.mpr ⟨hin, by simp [hne]⟩) h2
        rw [this]
end
end K31
namespace K31
open L2 PySem PySem.Spec PyProof.Rows
section
variable {X : Cx} {ρ : Rho} {it tg elt : Expr} {ifs : List Expr} {scope : Scope} {pos : Pos} {k : Nat} {σ : L2.St} {H : Hp} {D' : Ends} {rest body : List Stmt}
/-- name = [..], a dict locked meanwhile -/
theorem s_lcLock {ds : List D} {u : HO} {l : Addr} {y : Str} {py spos : Pos} (i : Nat) (hfl : ds.all D.flat = true) (G : GX X k) (own : List (Str × Nat)) (ok : BlkOk X.N X.env.scope scope own) (hd : H l = some u) (mu : Mut (some u)) (hi : Imm u = false) (E : Env ρ σ H)
    (h : ∀ od (Q : VK), (∀ v H', Same (upd H l (.frz od u)) H' → Lst ds H' v → Q v H') → tLcX X elt tg it ifs scope own σ (upd H l (.frz od u)) Q) (q : ∀ v H', Same H H' → Lst ds H' v → WSs X rest D' (σ.set i (some v)) H')
    (hsw : swapsWith (.ListComp elt [⟨tg, it, ifs, 0⟩] scope pos) (some (.Name y py)) spos.line X.env = pure true) (hy : X.N[i]? = some y := by rfl) (hyl : X.env.scope.names.lookup y = some .local := by rfl) (hs : ∀ x, foldedSetIterable it X.env x = pure x := by intro _; rfl) :
    WSs X (.Assign [.Name y py] (.ListComp elt [⟨tg, it, ifs, 0⟩] scope pos) spos :: rest) D' σ H := by
  refine s_cons (.by (ps_lock (ps_setLc (own := own) (g := AllG X scope tg) (tt := AllT X scope ifs) (te := AllE X scope elt) G.calm G.nd hy hyl hsw pi_W ok (fun s H C cl fp => ⟨fun pins s' σ H' v u Q I r h => h s H C cl fp pins s' u I r⟩) (fun s H C cl fp => ⟨fun pins s' σ H' Q I h => h s H C cl fp pins s' I⟩)
    (fun s H C cl fp => ⟨fun pins s' σ H' Q I h => h s H C cl fp pins s' I⟩) hs)) ⟨l, u, hd, mu, fun od => ?_⟩)
  refine h od _ fun v H' s ⟨a, vs, ev, ha, r⟩ => ?_
  subst ev
  have hl' := s _ _ (upd_same (H := H) (a := l) (o := .frz od u))
  have hal : a ≠ l := by intro z; subst z; rw [hl'] at ha; cases ha
  refine ⟨hl', q _ _ (fun b o hb => ?_) ⟨a, vs, rfl, by rw [upd_ne hal]; exact ha, r.keep hfl⟩⟩
  · by_cases hbl : b = l
    · subst hbl; rw [hd] at hb; cases hb; exact upd_same
    · rw [upd_ne hbl]; exact s b o (by rw [upd_ne hbl]; exact hb)
/-- a for over some list -/
theorem s_forM {ds : List D} (G : GX X k) (hp : PassesOwn (model X.prog X.w) X.A X.env X.xe) (E : Env ρ σ H) (hi : ED X H ρ it (Lst ds))
    (q : ∀ H1 a, Same H H1 → LstAt H1 a ds → Env ρ σ H1 → ∃ J : Nat → L2.St → Hp → Prop, J 0 σ H1 ∧ (∀ i σ' H', J i σ' H' → Le H1 H' ∧ H' a = H1 a) ∧
      (∀ i d v σ' H', ds[i]? = some d → J i σ' H' → Rep H' d v → WG X tg v σ' H' fun σ2 H2 => WSs X body { D' with nx := J (i + 1), ct := J (i + 1), bk := fun σ' H' => WSs X rest D' σ' H' } σ2 H2) ∧
      (∀ σ' H', J ds.length σ' H' → WSs X rest D' σ' H'))
    (hs : ∀ x, foldedSetIterable it X.env x = pure x := by intro _; rfl) : WSs X (.For tg it body [] pos :: rest) D' σ H := by
  refine s_cons (.by (ps_for hp G.calm (pi_list pe_W) pg_W pss_W hs) ?_)
  refine hi.run σ H _ E.en fun v H1 s1 ⟨a, vs, ev, h1, r1⟩ => ?_
  subst ev
  obtain ⟨J, j0, jl, js, jd⟩ := q H1 a s1 ⟨vs, h1, r1⟩ (E.same s1)
  refine ⟨_, rfl, ⟨_, SqL.of h1⟩, ?_⟩
  have hlen := r1.length
  refine for_it (n := vs.length) (G := fun H' => H' a = some (.lst vs)) (Walk.mono walk_list (fun H g => SqL.of g) fun i Ha v Hb hi g y => y) J j0 (fun i σ' H' _ j => (jl i σ' H' j).2.trans h1) (fun i x σ' H' H'' hi' j y => ?_) fun σ' H' j => jd σ' H' (by rw [hlen]; exact j)
  obtain ⟨rfl, hx⟩ := y
  obtain ⟨d, hd, rd⟩ := r1.getV hx
  exact js i d x σ' _ hd j (rd.le (jl i σ' _ j).1)
end
section
variable {P : Program} {w : World}
variable {K : PySem.W.Frag} {mg : Str → Option Value} {base : Heap}
theorem SameBut.freeOf {p l : Addr} {H H' : Hp} {m m' : List (Int × Int)} (s : SameBut p H H') (hp : DictI H p m) (hp' : DictI H' p m') (hl : H' l = none) : H l = none := by
  cases e : H l with
  | none => rfl
  | some o =>
    have : l ≠ p := by intro z; subst z; rw [hp'] at hl; cases hl
    have := s l o this e
    rw [hl] at this; cases this
def spGrown : Sp := fun vs H Q _ => ∃ (le pd : Addr) (sr : Int) (es mp : List (Int × Int)), vs = [.ref le, .ref pd, .int sr] ∧ LstAt H le (es.map dDot) ∧ DictI H pd mp ∧ es.length ≤ 2000 ∧ GM es mp ∧ sr ∉ mp.map Prod.snd ∧
  ∀ (b : Bool) (mp' : List (Int × Int)) H', SameBut pd H H' → DictI H' pd mp' → (b = true → GM es mp' ∧ (mp'.map Prod.snd).Perm (sr :: mp.map Prod.snd)) → (b = false → mp' = mp ∧ ∃ T, Stuck es (flipM mp) sr T) → Q (.bl b) H'
theorem gm_len {es mp : List (Int × Int)} (h : GM es mp) : mp.length ≤ es.length := by
  have := nodup_len (m := es.map Prod.snd) h.k fun x hx => by
    obtain ⟨y, hy, rfl⟩ := List.mem_map.mp hx; exact List.mem_map.mpr ⟨_, h.e y hy, rfl⟩
  simpa using this
theorem hole_len {es m0 m : List (Int × Int)} {c : Int} (h : Hole es m0 m c) : m.length ≤ m0.length + 1 := by
  have h1 := h.rows.length_eq
  rw [List.length_map, List.length_map] at h1
  by_cases hc : c ∈ m.map Prod.fst
  · obtain ⟨x, hx, e⟩ := List.mem_map.mp hc
    have hx' : (c, x.2) ∈ m := by rw [← e]; exact hx
    have := (split_key h.k hx').length_eq
    rw [List.length_cons] at this
    omega
  · rw [List.filter_eq_self.mpr fun x hx => ?_] at h1
    · omega
    · have : ¬ x.1 = c := fun z => hc (List.mem_map.mpr ⟨x, hx, z⟩)
      simp [this]
theorem ok_grown (T : Tx K mg) : DefOk P w K mg base 1 "_law_grown" spGrown := by
  refine T.d__law_grown (fun vs H Q E ⟨le, pd, sr, es, mp, ev, _⟩ => by subst ev; rfl) fun X vs H Q E ⟨f, cdv, A, outer, s, e⟩ G ⟨le, pd, sr, es, mp, ev, hle, hpd, hes, hg, hst, q⟩ => ?_
  subst e ev
  have E := env_p (N := N__law_grown) (Ps' := [rf le, rf pd, R (.int sr)]) (vs := [.ref le, .ref pd, .int sr]) (H := H) (.cons rfl (.cons rfl (.cons (.int sr) .nil)))
  have hle_pd : le ≠ pd := by
    intro z; subst z
    obtain ⟨us, e, _⟩ := hle
    rw [hpd] at e; cases e
  have keepL : ∀ {l : Addr} {ds : List D} {H1 H2 : Hp} {a : Addr} {m : List (Int × Int)}, LstAt H1 l ds → SameBut a H1 H2 → DictI H1 a m → LstAt H2 l ds := fun {l ds H1 H2 a m} hl sb hd => hl.but sb hd rfl (by intro z; subst z; obtain ⟨us, e, _⟩ := hl; rw [hd] at e; cases e)
  -- came, level = {}, [sr]
  refine s_par2c 3 4 G ?_
  refine .by pe_dnewK fun lc hlc => ?_
  have s1 := same_upd (o := .dK []) hlc
  have E1 := E.same s1
  refine .by (pe_lst (pa_cons pe_W pa_nil)) ?_
  refine (er_var 2 rfl).run _ _ _ E1.en fun v H2 s2 rv => ⟨Nat.le_of_lt (small1000 (by show 1 ≤ 1000; decide)), fun lv hlv t ht => ?_⟩
  cases rv
  have s3 := same_upd (o := .lst [.int sr]) hlv
  have s4 := same_upd (o := .tup [.ref lc, .ref lv]) ht
  have s14 := (s1.trans s2).trans (s3.trans s4)
  have hlc0 : H lc = none := hlc
  have hlv0 : H lv = none := (s1.trans s2).free hlv
  have E2 := ((E.same s14).set 3 (P := rf lc) rfl).set 4 (P := rf lv) rfl
  have hD0 : DictI (upd (upd H2 lv (.lst [.int sr])) t (.tup [.ref lc, .ref lv])) lc [] := (s3.trans s4) _ _ (s2 _ _ upd_same)
  have hL0 : LstAt (upd (upd H2 lv (.lst [.int sr])) t (.tup [.ref lc, .ref lv])) lv ([sr].map D.int) := ⟨[.int sr], s4 _ _ upd_same, .cons (.int _) .nil⟩
  have hlcpd : lc ≠ pd := by intro z; subst z; rw [hpd] at hlc0; cases hlc0
  -- the outer loop
  let W : Nat → L2.St → Hp → Prop := fun m σ' H' => ∃ (came : List (Int × Int)) (lev : List Int) (ll : Addr), m = 2 * (es.length - came.length) + (if lev = [] then 0 else 1) ∧ BF es mp sr came lev [] [] ∧ SameBut pd H H' ∧ DictI H' pd mp ∧ DictI H' lc came ∧ H ll = none ∧ LstAt H' ll (lev.map D.int) ∧ lev.length ≤ 2000 ∧
    Env [some (rf le), some (rf pd), some (R (.int sr)), some (rf lc), some (rf ll), none, none, none, none, none, none] σ' H'
  refine s_while .never W (m0 := 2 * (es.length - 0) + 1) ⟨[], [sr], lv, rfl, BF.init, .of s14, hpd.same s14, hD0, hlv0, hL0, by simp, E2⟩ fun m σ' H' ⟨came, lev, ll, em, bf, sb, hpd', hlc', hll0, hll, hlen, E3⟩ => ?_
  have hle' : LstAt H' le (es.map dDot) := keepL hle sb hpd
  refine ⟨_, _, E3, td_neEL (l := lev) (m := []) enc_int (by decide) G (ed_here hll (ed_var 4 rfl)) (ed_lst ad_nil), fun hb H4 s5 E4 => ?_, fun hb H4 s5 E4 => ?_⟩
  · have hne : lev ≠ [] := by simpa using hb
    have hcl := bf.c.len
    -- later = []
    refine s_setD 5 G E4 ad_nil fun lt σ5 H5 hlt s6 hLt E5 => ?_
    have s56 := s5.trans s6
    have hltpd : lt ≠ pd := by intro z; subst z; have := s5 _ _ hpd'; rw [hlt] at this; cases this
    have hltlc : lt ≠ lc := by intro z; subst z; have := s5 _ _ hlc'; rw [hlt] at this; cases this
    have hlt0 : H' lt = none := s5.free hlt
    let F := es.filter fun x => decide (x.1 ∈ lev)
    have hleL : LstAt H5 le (es.map dDot) := hle'.same s56
    have hllL := hll.same s56
    refine s_forM (ds := F.map dDot) G .never E5 (ed_lc (L := es) (enc := dDot) (fun x => decide (x.1 ∈ lev)) dDot G [("_law_edge", 9)] (src_lst (ed_here hleL (ed_var 0 rfl))) (blkOk_by (N := N__law_grown) (sc := defScope s_law_grown) (by decide +kernel)) (by omega) (fun s H0 C cl fp x hx => tg_name 9 G.nd)
      (fun s H0 C cl fp x hx => ts_one (td_inEL enc_int (by decide) G.bk (er_ixt (er_var 9 rfl) er_int rfl) (ed_here hllL (ed_var 4 rfl)))) fun s H0 C cl fp x hx _ => er_var 9 rfl) fun H6 a s7 hLa E6 => ?_
    have s57 := s56.trans s7
    have hpd6 := hpd'.same s57
    have hlc6 := hlc'.same s57
    have hLt6 := hLt.same s7
    have hapd : a ≠ pd := by intro z; subst z; obtain ⟨us, e, _⟩ := hLa; rw [hpd6] at e; cases e
    have halc : a ≠ lc := by intro z; subst z; obtain ⟨us, e, _⟩ := hLa; rw [hlc6] at e; cases e
    have halt : F ≠ [] → a ≠ lt := by
      intro hF z; subst z
      obtain ⟨us, e, r⟩ := hLa
      obtain ⟨us', e', r'⟩ := hLt6
      rw [e'] at e; cases e
      cases r'
      have := r.length
      rw [List.length_map] at this
      exact hF (List.eq_nil_of_length_eq_zero this)
    have hFl : F.length ≤ es.length := List.length_filter_le _ _
    refine ⟨fun j σ' H7 => ∃ (came' : List (Int × Int)) (later : List Int), BF es mp sr came' lev later (F.take j) ∧ came'.length = came.length + later.length ∧ SameBut pd H H7 ∧ DictI H7 pd mp ∧ DictI H7 lc came' ∧ LstAt H7 lt (later.map D.int) ∧ (Le H6 H7 ∧ H7 a = H6 a) ∧
      Env [some (rf le), some (rf pd), some (R (.int sr)), some (rf lc), some (rf ll), some (rf lt), none, none, none, none, none] σ' H7, ?_, ?_, ?_, ?_⟩
    · exact ⟨came, [], bf, rfl, sb.trans (.of s57), hpd6, hlc6, hLt6, ⟨Le.refl _, rfl⟩, E6⟩
    · rintro j σ' H7 ⟨_, _, _, _, _, _, _, _, h, _⟩; exact h
    · rintro j d v σ7 H7 hd ⟨came', later, bf', hlen', sb7, hpd7, hlc7, hLt7, ⟨le7, ea7⟩, E7⟩ rd
      obtain ⟨x, hx, rfl⟩ := get_map hd
      have hxF : x ∈ F := List.mem_of_getElem? hx
      obtain ⟨hxe, hxl⟩ := List.mem_filter.mp hxF
      have hxl : x.1 ∈ lev := of_decide_eq_true hxl
      have hFne : F ≠ [] := List.ne_nil_of_mem hxF
      have halt := halt hFne
      have hcl' := bf'.c.len
      refine g_tup2 6 7 G rd fun u1 u2 ru1 ru2 => ?_
      have E8 := (E7.set 6 (P := R (.int x.1)) ru1).set 7 (P := R (.int x.2)) ru2
      refine s_if E8 (td_inin G hlc7.r (ed_var 3 rfl) (er_var 7 rfl)) (fun hk H8 s8 E9 => ?_) fun hk H8 s8 E9 => s_nil (s_nil ?_)
      · have hxn : x.2 ∉ came'.map Prod.fst := fun h => by rw [getM_isSome.mpr h] at hk; cases hk
        -- came[column] = row
        refine s_iput G E9 (hlc7.same s8) (by omega) (ed_var 3 rfl) (er_var 7 rfl) (er_var 6 rfl) fun H9 s9 hlc9 E10 => ?_
        rw [putM_new _ hxn] at hlc9
        have hpd9 : DictI H9 pd mp := s9 _ _ hlcpd.symm (s8 _ _ hpd7)
        have sb9 : SameBut pd H H9 := s9.through (sb7.trans (.of s8)) hlc0
        have le9 : Le H6 H9 := (le7.trans (.of s8)).trans (s9.le (s8 _ _ hlc7) rfl)
        have ea9 : H9 a = H6 a := by
          obtain ⟨us, e, _⟩ := hLa
          rw [e] at ea7 ⊢
          exact s9 _ _ halc (s8 _ _ ea7)
        have hLt9 : LstAt H9 lt (later.map D.int) := (hLt7.same s8).but s9 (s8 _ _ hlc7) rfl hltlc
        have hcame9 : Came es mp sr (came' ++ [(x.2, x.1)]) := bf'.c.add (bf'.lv _ hxl) hxn hxe
        refine s_if E10 (td_inin G hpd9.r (ed_var 1 rfl) (er_var 7 rfl)) (fun hk2 H10 s10 E11 => ?_) fun hk2 H10 s10 E11 => s_nil ?_
        · -- free: the walk back
          have hfree : x.2 ∉ mp.map Prod.fst := fun h => by rw [getM_isSome.mpr h] at hk2; cases hk2
          let W2 : Nat → L2.St → Hp → Prop := fun m σ' H' => ∃ (mk : List (Int × Int)) (o : Option Int), SameBut pd H H' ∧ DictI H' pd mk ∧ DictI H' lc (came' ++ [(x.2, x.1)]) ∧ (Env [some (rf le), some (rf pd), some (R (.int sr)), some (rf lc), some (rf ll), some (rf lt), none, some (R (dOpt o)), none, none, none] σ' H') ∧
            (match o with
              | some c => ∃ i, m = i + 1 ∧ Back es mp sr (came' ++ [(x.2, x.1)]) mk i c
              | none => m = 0 ∧ GM es mk ∧ (mk.map Prod.snd).Perm (sr :: mp.map Prod.snd))
          have hlast : (came' ++ [(x.2, x.1)])[came'.length]? = some (x.2, x.1) := by rw [List.getElem?_append_right (Nat.le_refl _), Nat.sub_self]; rfl
          refine s_while .never W2 (m0 := came'.length + 1) ⟨mp, some x.2, sb9.trans (.of s10), hpd9.same s10, hlc9.same s10, E11.fg (.k (.k (.k (.k (.k (.k (.d (.k (.k (.k (.k .nil))))))))))), came'.length, rfl, ⟨⟨x.1, hlast⟩, Hole.start hg hfree, fun _ _ _ _ => rfl⟩⟩ fun m2 σ11 H11 ⟨mk, o, sb11, hpd11, hlc11, E12, ho⟩ => ?_
          refine ⟨_, _, E12, td_notN (by cases o <;> rfl) (er_var 7 rfl), fun hb2 H12 s12 E13 => ?_, fun hb2 H12 s12 E13 => ?_⟩
          · cases o with
            | none => cases hb2
            | some c =>
              obtain ⟨i, em2, hbk⟩ := ho
              obtain ⟨r, hr⟩ := hbk.at_
              have hgc : getM (came' ++ [(x.2, x.1)]) c = some r := getM_mem hcame9.ck (List.mem_of_getElem? hr)
              have hmkl := hole_len hbk.hole
              have hmpl := gm_len hg
              -- row = came[column]
              refine s_set 6 (d := .int r) G E13 (er_iget G (hlc11.same s12).r (ed_var 3 rfl) (er_var 7 rfl) hgc) fun σ13 H13 s13 E14 => ?_
              have s123 := s12.trans s13
              -- before
              refine s_lcLock (ds := ((mk.filter fun z => decide (z.2 = r)).map Prod.fst).map D.int) 8 (flat_ints _) G [("_law_other", 10)] (blkOk_by (N := N__law_grown) (sc := defScope s_law_grown) (by decide +kernel)) (hpd11.same s123) trivial rfl E14 (fun od Q qq => ?_) (fun v H14 s14' ⟨lb, us, ev, hb1, hbr⟩ => ?_) (sw_true rfl rfl rfl (by decide +kernel))
              · have hfz : (upd H13 pd (.frz od (.dK (kvI mk)))) pd = some (.frz od (.dK (kvI mk))) := upd_same
                refine r_lc (L := mk) (enc := fun z : Int × Int => D.int z.1) (fun z => decide (z.2 = r)) (fun z => D.int z.1) (ρ' := fun z => [some (rf le), some (rf pd), some (R (.int sr)), some (rf lc), some (rf ll), some (rf lt), some (R (.int r)), some (R (dOpt (some c))), none, none, some (R (.int z.1))]) [("_law_other", 10)] (src_ikeys (ed_var 1 rfl) hfz) (by omega) ?_ ?_ ?_ _ _ Q ⟨Same.refl _, E14.le (Le.upd (hpd11.same s123) rfl)⟩ fun v H' s h => qq v H' s ?_
                · exact fun s H0 C cl fp z hz => tg_name 10 G.nd
                · exact fun s H0 C cl fp z hz => ts_one (td_eqI (er_iget G.bk (.inr ⟨od, hfz⟩) (ed_var 1 rfl) (er_var 10 rfl) (getM_mem hbk.hole.k hz)) (er_var 6 rfl))
                · exact fun s H0 C cl fp z hz _ => er_var 10 rfl
                · rw [List.map_map]; exact h
              · subst ev
                have hLb : LstAt H14 lb (((mk.filter fun z => decide (z.2 = r)).map Prod.fst).map D.int) := ⟨us, hb1, hbr⟩
                have E15 := (E14.same s14').set 8 (P := rf lb) rfl
                have s124 := s123.trans s14'
                have hpd14 := hpd11.same s124
                have hlbpd : lb ≠ pd := by intro z; subst z; obtain ⟨us, e, _⟩ := hLb; rw [hpd14] at e; cases e
                -- pairs[column] = row
                refine s_iput G E15 hpd14 (by omega) (ed_var 1 rfl) (er_var 7 rfl) (er_var 6 rfl) fun H15 s15 hpd15 E16 => ?_
                have hlc15 : DictI H15 lc (came' ++ [(x.2, x.1)]) := s15 _ _ hlcpd (s124 _ _ hlc11)
                have hLb15 := hLb.but s15 hpd14 rfl hlbpd
                have sb15 : SameBut pd H H15 := (sb11.trans (.of s124)).trans s15
                by_cases hrs : r = sr
                · refine s_set 7 (d := dOpt none) G E16 (.is (er_if (k := false) (d' := .non) (.is (td_and (td_neEL (l := (mk.filter fun z => decide (z.2 = r)).map Prod.fst) (m := []) enc_int (by decide) G (ed_here hLb15 (ed_var 8 rfl)) (ed_lst ad_nil)) fun _ => td_neI (er_var 6 rfl) (er_var 2 rfl)) (by simp [hrs])) (fun h => by cases h) (fun _ => er_non) (d := .non)) rfl) fun σ16 H16 s16 E17 => s_nil ?_
                  have hcl := hbk.hole.close hg.v (by rw [hrs]; exact hst) (hcame9.ce _ (List.mem_of_getElem? hr))
                  exact ⟨0, by omega, putM mk c r, none, sb15.trans (.of s16), hpd15.same s16, hlc15.same s16, E17.fg (.k (.k (.k (.k (.k (.k (.d (.k (.d (.k (.k .nil))))))))))), rfl, hcl.1, by rw [hrs] at hcl ⊢; exact hcl.2⟩
                · obtain ⟨j2, c2, hj2, hbk2, hin, hall⟩ := Back.next hg hcame9 hbk hr hrs
                  obtain ⟨b0, bs, hbs⟩ : ∃ b0 bs, (mk.filter fun z => decide (z.2 = r)).map Prod.fst = b0 :: bs := by
                    cases h : (mk.filter fun z => decide (z.2 = r)).map Prod.fst with
                    | nil => rw [h] at hin; cases hin
                    | cons b0 bs => exact ⟨b0, bs, rfl⟩
                  have hb0 : b0 = c2 := hall b0 (by rw [hbs]; exact List.mem_cons_self)
                  rw [hbs] at hLb15
                  refine s_set 7 (d := dOpt (some c2)) G E16 (.is (er_if (k := true) (d := .int b0) (d' := .non) (.is (td_and (td_neEL (l := b0 :: bs) (m := []) enc_int (by decide) G (ed_here hLb15 (ed_var 8 rfl)) (ed_lst ad_nil)) fun _ => td_neI (er_var 6 rfl) (er_var 2 rfl)) (by simp [hrs])) (fun _ => el_ix (ed_here hLb15 (ed_var 8 rfl)) er_int (atI_nat (j := 0) rfl)) (fun h => by cases h)) (by rw [hb0]; rfl)) fun σ16 H16 s16 E17 => s_nil ?_
                  exact ⟨j2 + 1, by omega, putM mk c r, some c2, sb15.trans (.of s16), hpd15.same s16, hlc15.same s16, E17.fg (.k (.k (.k (.k (.k (.k (.d (.k (.d (.k (.k .nil))))))))))), j2, rfl, hbk2⟩
          · cases o with
            | some c => cases hb2
            | none =>
              obtain ⟨_, hgm, hperm⟩ := ho
              refine s_ret E13 er_bl fun v H13 s13 r13 => ?_
              cases r13
              exact q true mk H13 (sb11.trans (.of (s12.trans s13))) (hpd11.same (s12.trans s13)) (fun _ => ⟨hgm, hperm⟩) fun h => by cases h
        · -- taken: its row comes later
          have htk : x.2 ∈ mp.map Prod.fst := by
            rw [← getM_isSome]
            cases h : (getM mp x.2).isSome with
            | true => rfl
            | false => rw [h] at hk2; cases hk2
          obtain ⟨r2, hr2⟩ := Option.isSome_iff_exists.mp (getM_isSome.mpr htk)
          have hpd10 := hpd9.same s10
          refine s_append E11 (hLt9.same s10) (ed_var 5 rfl) (er_iget G hpd10.r (ed_var 1 rfl) (er_var 7 rfl) hr2) (by rw [List.length_map]; omega) fun H11 s11 hL11 E12 => s_nil (s_nil ?_)
          have hlt10 : (upd H10 lt (.lst [])) lt ≠ none := by rw [upd_same]; exact fun h => by cases h
          have bf2 := bf'.add hg.v hxl hxn hxe (getM_some hr2) hg.k
          refine ⟨came' ++ [(x.2, x.1)], later ++ [r2], by rw [take_snoc hx]; exact bf2, by simp; omega, ?_, ?_, ?_, by rw [List.map_append]; exact hL11, ⟨?_, ?_⟩, E12.fg (.k (.k (.k (.k (.k (.k (.d (.d (.k (.k (.k .nil)))))))))))⟩
          · exact s11.through (sb9.trans (.of s10)) (sb.freeOf hpd hpd' hlt0)
          · exact s11 _ _ hltpd.symm hpd10
          · exact s11 _ _ hltlc.symm (hlc9.same s10)
          · exact (le9.trans (.of s10)).trans ((hLt9.same s10).le s11)
          · obtain ⟨us, e, _⟩ := hLa
            rw [e] at ea9 ⊢
            exact s11 _ _ halt (s10 _ _ ea9)
      · have hxin : x.2 ∈ came'.map Prod.fst := by
          rw [← getM_isSome]
          cases h : (getM came' x.2).isSome with
          | true => rfl
          | false => rw [h] at hk; cases hk
        refine ⟨came', later, by rw [take_snoc hx]; exact bf'.skip hxin, hlen', sb7.trans (.of s8), hpd7.same s8, hlc7.same s8, hLt7.same s8, ⟨le7.trans (.of s8), ?_⟩, E9.fg (.k (.k (.k (.k (.k (.k (.d (.d (.k (.k (.k .nil)))))))))))⟩
        obtain ⟨us, e, _⟩ := hLa
        rw [e] at ea7 ⊢
        exact s8 _ _ ea7
    · rintro σ7 H7 ⟨came', later, bf', hlen', sb7, hpd7, hlc7, hLt7, _, E7⟩
      rw [List.length_map, List.take_length] at bf'
      have hcl' := bf'.c.len
      refine s_asg 4 (P := (rf lt).p) G E7 (ed_var 5 rfl) fun v H8 s8 ev E8 => s_nil ?_
      obtain rfl : v = .ref lt := ev
      refine ⟨2 * (es.length - came'.length) + (if later = [] then 0 else 1), ?_, came', later, lt, rfl, bf'.next, sb7.trans (.of s8), hpd7.same s8, hlc7.same s8, sb.freeOf hpd hpd' hlt0, hLt7.same s8, by omega, (E8.set 4 (P := rf lt) rfl).fg (.k (.k (.k (.k (.k (.d (.k (.k (.k (.k (.k .nil)))))))))))⟩
      rw [em, if_neg hne]
      split
      · omega
      · rename_i hl
        have : 0 < later.length := List.length_pos_iff.mpr hl
        omega
  · have he : lev = [] := by simpa using hb
    subst he
    refine s_ret E4 er_bl fun v H5 s6 r5 => ?_
    cases r5
    exact q false mp H5 (sb.trans (.of (s5.trans s6))) (hpd'.same (s5.trans s6)) (fun h => by cases h) fun _ => ⟨rfl, _, bf.stuck hg⟩
end
end K31
namespace K31
open L2 PySem PySem.Spec PyProof.Rows
theorem dedE_mem {l : List Edge} {e : Edge} : e ∈ dedE l ↔ e ∈ l := by
  have : ∀ (l acc : List Edge), e ∈ l.foldl (fun acc e => if e ∈ acc then acc else acc ++ [e]) acc ↔ e ∈ acc ∨ e ∈ l := by
    intro l
    induction l with
    | nil => intro acc; simp
    | cons x l ih =>
      intro acc
      rw [List.foldl_cons, ih]
      split
      · rename_i hx
        rw [List.mem_cons]
        exact ⟨fun h => h.elim .inl fun h => .inr (.inr h), fun h => h.elim .inl fun h => h.elim (fun e => .inl (by rw [e]; exact hx)) .inr⟩
      · rw [List.mem_append, List.mem_singleton, List.mem_cons, or_assoc]
  have h := this l []
  simpa [dedE] using h
/-- small numbers -/
def SmI (x : Int) : Prop := 0 ≤ x ∧ x < 10
structure EdgesOk (es : List Edge) : Prop where
  no : (none, none) ∉ es
  len : es.length ≤ 1200
  r : ∀ e ∈ es, ∀ x, e.1 = some x → SmI x
  c : ∀ e ∈ es, ∀ x, e.2 = some x → SmI x
theorem ded_small {l : List Int} (h : ∀ x ∈ l, SmI x) : (ded l).length < 64 := by
  have := nodup_len (m := (List.range 10).map fun i : Nat => (i : Int)) (ded_nd l) fun x hx => by
    obtain ⟨h0, h1⟩ := h x (ded_mem.mp hx)
    exact List.mem_map.mpr ⟨x.toNat, List.mem_range.mpr (by omega), by omega⟩
  rw [List.length_map, List.length_range] at this
  omega
theorem dots_small {B : List (List Bool)} (g : GoodB B) {d : Dot} (h : d ∈ dotsOf B) : SmI d.1 ∧ SmI d.2 := by
  obtain ⟨h0, h1, h2, h3, h4⟩ := dotsFrom_fst h
  have hb := g.h1
  have h5 : (B.getD (d.1 - (0 : Nat)).toNat []).length ≤ 10 := by
    rw [List.getD_eq_getElem?_getD]; cases e : B[(d.1 - (0 : Nat)).toNat]? with
    | none => simp
    | some r => exact g.le10 r (List.mem_of_getElem? e)
  exact ⟨⟨by omega, by omega⟩, ⟨h2, by omega⟩⟩
theorem fine_of {B : List (List Bool)} {m : Nat} {f : Films} {s : Seen} (g : GoodB B) (hf : FilmOk B m f) (hs : SeenOk B s) : Fine f s := ⟨hf.h0, fun l hl => (hf.lit l hl).len g, hs.h1, fun x hx => (hs.lit x hx).len g⟩
theorem demands_ok {B : List (List Bool)} {m : Nat} {f : Films} {s : Seen} {fd : Bool} {es : List Edge} (g : GoodB B) (hf : FilmOk B m f) (hs : SeenOk B s) (h : demandsOf f s fd = some es) : EdgesOk es := by
  have hF := fine_of g hf hs
  unfold demandsOf at h
  split at h
  · cases h
  · dsimp only at h
    split at h
    · cases h
    · rename_i hno
      cases h
      have sub : ∀ e ∈ dedE ((missOf f s).map (edgeAt (lastOf s) fd)), ∃ x ∈ missOf f s, e = edgeAt (lastOf s) fd x ∧ SmI x.2.1 ∧ SmI x.2.2 := by
        intro e he
        obtain ⟨x, hx, rfl⟩ := List.mem_map.mp (dedE_mem.mp he)
        refine ⟨x, hx, rfl, ?_⟩
        unfold missOf at hx
        obtain ⟨y, hy, hx⟩ := List.mem_flatMap.mp hx
        obtain ⟨d, hd, rfl⟩ := List.mem_map.mp hx
        exact dots_small g ((hf.lit _ (litAt_mem y.1 hf.h0)).2 d (List.mem_filter.mp hd).1)
      refine ⟨fun h => hno (dedE_mem.mp h), ?_, fun e he x hx => ?_, fun e he x hx => ?_⟩
      · have h1 := dedE_len ((missOf f s).map (edgeAt (lastOf s) fd))
        have h2 := miss_len (s := s) hF.f0 hF.lf
        have h3 := hF.s1
        rw [List.length_map] at h1
        omega
      · obtain ⟨y, hy, rfl, h1, h2⟩ := sub e he
        unfold edgeAt at hx
        dsimp only at hx
        split at hx
        · cases hx; exact h1
        · cases hx
      · obtain ⟨y, hy, rfl, h1, h2⟩ := sub e he
        unfold edgeAt at hx
        dsimp only at hx
        split at hx
        · cases hx; exact h2
        · cases hx
section
variable {X : Cx} {Hz : Hp} {ρ : Rho} {e : Expr} {pos : Pos} {l : Addr}
/-- a reference is not None -/
theorem td_refN {j : Nat} {p2 : Pos} (ha : ED X Hz ρ e (rf l).p) : TD X Hz ρ (.Compare e [.IsNot] [.Constant .none j p2] pos) true :=
  td_op op_notN (nomark _) (stb_PP (rf l)) ha er_non fun x y H p1 p2 Q q => by
    obtain rfl : x = .ref l := p1
    cases p2
    exact ⟨rfl, q⟩
end
section
variable {P : Program} {w : World}
variable {K : PySem.W.Frag} {mg : Str → Option Value} {base : Heap}
def spApart : Sp := fun vs H Q _ => ∃ (le : Addr) (es : List (Int × Int)), vs = [.ref le] ∧ LstAt H le (es.map dDot) ∧ es.length ≤ 1200 ∧ (∀ e ∈ es, SmI e.1) ∧ ∀ H', Same H H' → Q (.int (maxN es : Nat)) H'
theorem ok_apart (T : Tx K mg) : DefOk P w K mg base 2 "_law_apart_edges" spApart := by
  refine T.d__law_apart_edges (fun vs H Q E ⟨le, es, ev, _⟩ => by subst ev; rfl) fun X vs H Q E ⟨f, cdv, A, outer, s, e⟩ G ⟨le, es, ev, hle, hlen, hsm, q⟩ => ?_
  subst e ev
  have E := env_p (N := N__law_apart_edges) (Ps' := [rf le]) (vs := [.ref le]) (H := H) (.cons rfl .nil)
  refine s_par2 1 2 G ?_
  refine .by pe_dnewK fun pd hpd => ?_
  have s1 := same_upd (o := .dK []) hpd
  refine er_int.run _ _ _ (E.same s1).en fun v H2 s2 rv => ?_
  cases rv
  have E2 := ((E.same (s1.trans s2)).set 1 (P := rf pd) rfl).set 2 (P := R (.int 0)) (.int 0)
  have hD2 : DictI H2 pd [] := s2 _ _ upd_same
  have s12 := s1.trans s2
  have hdm : (ded (es.map Prod.fst)).length < 64 := ded_small fun x hx => by obtain ⟨e, he, rfl⟩ := List.mem_map.mp hx; exact hsm e he
  refine s_forM (ds := (dedS (es.map Prod.fst)).map D.int) G .never E2 (el_srtSet G.calm T.n_sorted T.n_set hdm (by rw [List.length_map]; omega) (.imp (ed_lc (L := es) (enc := dDot) (fun _ => true) (fun e => .int e.1) G [("_law_edge", 4)] (src_lst (ed_here (hle.same s12) (ed_var 0 rfl))) (blkOk_by (N := N__law_apart_edges) (sc := defScope s_law_apart_edges) (by decide +kernel)) (by omega) (fun s H0 C cl fp x hx => tg_name 4 G.nd)
    (fun s H0 C cl fp x hx => ts_nil) fun s H0 C cl fp x hx _ => er_ixt (er_var 4 rfl) er_int rfl) fun H v h => by rw [filter_tt] at h; rw [List.map_map]; exact h)) fun H3 a s3 hLa E3 => ?_
  have hD3 := hD2.same s3
  have hapd : a ≠ pd := by intro z; subst z; obtain ⟨us, e, _⟩ := hLa; rw [hD3] at e; cases e
  have hpdle : le ≠ pd := hle.ne hpd
  let L := dedS (es.map Prod.fst)
  refine ⟨fun i σ' H' => ∃ mp, GM es mp ∧ (∀ r ∈ L.take i, r ∈ mp.map Prod.snd ∨ ∃ T, Stuck es (flipM mp) r T) ∧ (∀ r ∈ mp.map Prod.snd, r ∈ L.take i) ∧ Same H H' ∧ (Le H3 H' ∧ H' a = H3 a) ∧ DictI H' pd mp ∧ Env [some (rf le), some (rf pd), some (R (.int mp.length)), none, none] σ' H', ?_, ?_, ?_, ?_⟩
  · exact ⟨[], ⟨List.nodup_nil, List.nodup_nil, fun _ h => (by cases h)⟩, fun r hr => (by cases hr), fun r hr => (by cases hr), s12.trans s3, ⟨Le.refl _, rfl⟩, hD3, E3⟩
  · rintro i σ' H' ⟨_, _, _, _, _, h, _⟩; exact h
  · rintro i d v σ' H' hd ⟨mp, hg, hfull, hsub, sa, ⟨la, ea⟩, hD, E4⟩ rd
    obtain ⟨r, hr, rfl⟩ := get_map hd
    refine g_name 3 G ?_
    have E5 := E4.set 3 (P := R (.int r)) rd
    have hrn : r ∉ mp.map Prod.snd := by
      intro h
      have hm := hsub r h
      obtain ⟨j, hj⟩ := List.mem_iff_getElem?.mp hm
      rw [List.getElem?_take] at hj
      split at hj
      · rename_i hji
        have h1 := List.pairwise_iff_getElem.mp (dedS_up (es.map Prod.fst)) j i (lt_of_get hj) (lt_of_get hr) hji
        have e1 := (List.getElem?_eq_some_iff.mp hj).2
        have e2 := (List.getElem?_eq_some_iff.mp hr).2
        have e1' : (dedS (es.map Prod.fst))[j]'(lt_of_get hj) = r := e1
        have e2' : (dedS (es.map Prod.fst))[i]'(lt_of_get hr) = r := e2
        omega
      · cases hj
    have hle' := hle.same sa
    refine s_mid 2 G (fun v H6 => ∃ (b : Bool) (mp' : List (Int × Int)), v = .int ((mp.length : Nat) + b2i b) ∧ SameBut pd H' H6 ∧ DictI H6 pd mp' ∧ (b = true → GM es mp' ∧ (mp'.map Prod.snd).Perm (r :: mp.map Prod.snd)) ∧ (b = false → mp' = mp ∧ ∃ T, Stuck es (flipM mp) r T)) ?_ fun v H6 ⟨b, mp', ev, sb6, hD6, hb1, hb2⟩ => s_nil ?_
    · refine .by (pe_op op_add pe_W pe_W) ?_
      refine (er_var 2 rfl).run _ _ _ E5.en fun v H6 s6 rv => ?_
      cases rv
      refine .by (pe_callTy call_int1 (by rfl) T.n_int (by decide +kernel) (pa_cons pe_W pa_nil)) ?_
      refine we_call (ok_grown T) (G.mono (by decide)) ?_
      refine .by (pa_cons pe_W (pa_cons pe_W (pa_cons pe_W pa_nil))) ?_
      refine (ed_var 0 (P := rf le) rfl).run _ _ _ (E5.same s6).en fun v H7 s7 ev => ?_
      obtain rfl : v = .ref le := ev
      refine (ed_var 1 (P := rf pd) rfl).run _ _ _ ((E5.same s6).same s7).en fun v H8 s8 ev => ?_
      obtain rfl : v = .ref pd := ev
      refine (er_var 3 rfl).run _ _ _ (((E5.same s6).same s7).same s8).en fun v H9 s9 rv => ?_
      cases rv
      have s69 := (s6.trans s7).trans (s8.trans s9)
      refine ⟨le, pd, r, es, mp, rfl, hle'.same s69, hD.same s69, by omega, hg, hrn, fun b mp' H10 sb10 hD10 h1 h2 => ?_⟩
      refine .inr ⟨b, rfl, ?_⟩
      exact ⟨_, _, rfl, rfl, b, mp', rfl, (SameBut.of s69).trans sb10, hD10, h1, h2⟩
    · subst ev
      have le6 : Le H' H6 := sb6.le hD rfl
      have sa6 : Same H H6 := fun b o hb => sb6 b o (fun z => by subst z; rw [hpd] at hb; cases hb) (sa b o hb)
      have ea6 : H6 a = H3 a := by
        obtain ⟨us, e, _⟩ := hLa
        rw [e] at ea ⊢
        exact sb6 _ _ hapd ea
      cases b with
      | true =>
        obtain ⟨hg', hp'⟩ := hb1 rfl
        have hl : mp'.length = mp.length + 1 := by have := hp'.length_eq; simpa using this
        refine ⟨mp', hg', fun r' hr' => ?_, fun r' hr' => ?_, sa6, ⟨la.trans le6, ea6⟩, hD6, ?_⟩
        · rw [take_snoc hr] at hr'
          rcases List.mem_append.mp hr' with h | h
          · rcases hfull r' h with h2 | ⟨T, h2⟩
            · exact .inl (hp'.mem_iff.mpr (List.mem_cons_of_mem _ h2))
            · refine .inr ⟨T, h2.keep hg.mat hg'.mat fun e he => ?_⟩
              have : e.1 ∈ mp'.map Prod.snd := hp'.mem_iff.mpr (List.mem_cons_of_mem _ (by obtain ⟨x, hx, rfl⟩ := List.mem_map.mp he; exact List.mem_map.mpr ⟨x, hx, rfl⟩))
              obtain ⟨x, hx, e2⟩ := List.mem_map.mp this
              exact ⟨x.1, flip_mem.mpr (by rw [← e2]; exact hx)⟩
          · rw [List.mem_singleton.mp h]
            exact .inl (hp'.mem_iff.mpr List.mem_cons_self)
        · rw [take_snoc hr]
          rcases List.mem_cons.mp (hp'.mem_iff.mp hr') with h | h
          · rw [h]; exact List.mem_append_right _ List.mem_cons_self
          · exact List.mem_append_left _ (hsub r' h)
        · refine ((E5.le le6).set 2 (P := R (.int mp'.length)) ?_).fg (.k (.k (.k (.d (.k .nil)))))
          show Rep _ (.int mp'.length) (.int ((mp.length : Nat) + 1))
          rw [hl, show ((mp.length + 1 : Nat) : Int) = (mp.length : Nat) + 1 by omega]
          exact .int _
      | false =>
        obtain ⟨e, T, hT⟩ := hb2 rfl
        subst e
        refine ⟨mp', hg, fun r' hr' => ?_, fun r' hr' => ?_, sa6, ⟨la.trans le6, ea6⟩, hD6, ?_⟩
        · rw [take_snoc hr] at hr'
          rcases List.mem_append.mp hr' with h | h
          · exact hfull r' h
          · rw [List.mem_singleton.mp h]
            exact .inr ⟨T, hT⟩
        · rw [take_snoc hr]
          exact List.mem_append_left _ (hsub r' hr')
        · refine ((E5.le le6).set 2 (P := R (.int mp'.length)) ?_).fg (.k (.k (.k (.d (.k .nil)))))
          show Rep _ (.int mp'.length) (.int ((mp'.length : Nat) + 0))
          rw [Int.add_zero]
          exact .int _
  · rintro σ' H' ⟨mp, hg, hfull, hsub, sa, _, hD, E4⟩
    rw [List.length_map, List.take_length] at hfull
    have hF : Full es (flipM mp) := fun e he => by
      have : e.1 ∈ L := dedS_mem.mpr (List.mem_map.mpr ⟨e, he, rfl⟩)
      rcases hfull e.1 this with h | ⟨T, h⟩
      · obtain ⟨x, hx, e2⟩ := List.mem_map.mp h
        exact .inl ⟨x.1, flip_mem.mpr (by rw [← e2]; exact hx)⟩
      · exact .inr ⟨T, h⟩
    have hmx := maxN_full hg.mat hF
    have hfl : (flipM mp).length = mp.length := List.length_map ..
    refine s_ret E4 (er_var 2 rfl) fun v H5 s5 r5 => ?_
    cases r5
    have := q H5 (sa.trans s5)
    rw [← hmx, hfl] at this
    exact this
end
end K31
namespace K31
open L2 PySem PySem.Spec PyProof.Rows
theorem filter_congr' {α : Type} {p q : α → Bool} {l : List α} (h : ∀ x ∈ l, p x = q x) : l.filter p = l.filter q := by
  induction l with
  | nil => rfl
  | cons a l ih =>
    rw [List.filter_cons, List.filter_cons, h a List.mem_cons_self, ih fun x hx => h x (List.mem_cons_of_mem _ hx)]
section
variable {P : Program} {w : World}
variable {K : PySem.W.Frag} {mg : Str → Option Value} {base : Heap}
def spFew : Sp := fun vs H Q _ => ∃ (ld : Addr) (es : List Edge), vs = [.ref ld] ∧ LstAt H ld (es.map dEdge) ∧ EdgesOk es ∧ ∀ H', Same H H' → Q (.int (fewN es : Nat)) H'
theorem ok_fewest_of (T : Tx K mg) : DefOk P w K mg base 3 "_law_fewest_of" spFew := by
  refine T.d__law_fewest_of (fun vs H Q E ⟨ld, es, ev, _⟩ => by subst ev; rfl) fun X vs H Q E ⟨f, cdv, A, outer, s, e⟩ G ⟨ld, es, ev, hld, hok, q⟩ => ?_
  subst e ev
  have E := env_p (N := N__law_fewest_of) (Ps' := [rf ld]) (vs := [.ref ld]) (H := H) (.cons rfl .nil)
  have hlen := hok.len
  have hd1 : (ded ((es.filter fun e => e.2.isNone).map fun e => e.1.getD 0)).length < 64 := ded_small fun x hx => by
    obtain ⟨⟨a, b⟩, he, rfl⟩ := List.mem_map.mp hx
    obtain ⟨h1, h2⟩ := List.mem_filter.mp he
    cases a with
    | none => exact (show SmI 0 from ⟨by decide, by decide⟩)
    | some a => exact hok.r _ h1 a rfl
  have hd2 : (ded ((es.filter fun e => e.1.isNone).map fun e => e.2.getD 0)).length < 64 := ded_small fun x hx => by
    obtain ⟨⟨a, b⟩, he, rfl⟩ := List.mem_map.mp hx
    obtain ⟨h1, h2⟩ := List.mem_filter.mp he
    cases b with
    | none => exact (show SmI 0 from ⟨by decide, by decide⟩)
    | some b => exact hok.c _ h1 b rfl
  have hfl : ∀ g : Edge → Bool, (es.filter g).length ≤ 1200 := fun g => Nat.le_trans (List.length_filter_le _ _) hlen
  have hopt : ∀ o, (dOpt o).isAny = false ∧ (dOpt o).isNon = o.isNone := fun o => by cases o <;> exact ⟨rfl, rfl⟩
  -- the rows and the columns that must
  refine s_setL 1 (ds := (mustR es).map D.int) G E (el_srtSet G.calm T.n_sorted T.n_set hd1 (by rw [List.length_map]; have := hfl fun e => e.2.isNone; omega) (.imp (ed_lc (L := es) (enc := dEdge) (fun e => e.2.isNone) (fun e => dOpt e.1) G [("_law_row", 4), ("_law_column", 5)] (src_lst (ed_here hld (ed_var 0 rfl))) (blkOk_by (N := N__law_fewest_of) (sc := defScope s_law_fewest_of) (by decide +kernel)) (by omega) (fun s H0 C cl fp x hx => tg_tup2 4 5 G.nd G.calm)
    (fun s H0 C cl fp x hx => ts_one (.is (td_isN (hopt _).1 (er_var 5 rfl)) (hopt _).2)) fun s H0 C cl fp x hx _ => er_var 4 rfl) fun H v h => ?_)) fun l1 σ1 H1 s1 hL1 E1 => ?_
  · rw [List.map_map]
    refine (show _ = _ from List.map_congr_left fun e he => ?_) ▸ h
    obtain ⟨h1, h2⟩ := List.mem_filter.mp he
    obtain ⟨a, b⟩ := e
    cases b with
    | some b => cases h2
    | none =>
      cases a with
      | none => exact absurd h1 hok.no
      | some a => rfl
  refine s_setL 2 (ds := (mustC es).map D.int) G E1 (el_srtSet G.calm T.n_sorted T.n_set hd2 (by rw [List.length_map]; have := hfl fun e => e.1.isNone; omega) (.imp (ed_lc (L := es) (enc := dEdge) (fun e => e.1.isNone) (fun e => dOpt e.2) G [("_law_row", 4), ("_law_column", 5)] (src_lst (ed_here (hld.same s1) (ed_var 0 rfl))) (blkOk_by (N := N__law_fewest_of) (sc := defScope s_law_fewest_of) (by decide +kernel)) (by omega) (fun s H0 C cl fp x hx => tg_tup2 4 5 G.nd G.calm)
    (fun s H0 C cl fp x hx => ts_one (.is (td_isN (hopt _).1 (er_var 4 rfl)) (hopt _).2)) fun s H0 C cl fp x hx _ => er_var 5 rfl) fun H v h => ?_)) fun l2 σ2 H2 s2 hL2 E2 => ?_
  · rw [List.map_map]
    refine (show _ = _ from List.map_congr_left fun e he => ?_) ▸ h
    obtain ⟨h1, h2⟩ := List.mem_filter.mp he
    obtain ⟨a, b⟩ := e
    cases a with
    | some a => cases h2
    | none =>
      cases b with
      | none => exact absurd h1 hok.no
      | some b => rfl
  have hL1' : LstAt H2 l1 (((mustR es).map some).map dOpt) := by rw [List.map_map]; exact hL1.same s2
  have hL2' : LstAt H2 l2 (((mustC es).map some).map dOpt) := by rw [List.map_map]; exact hL2
  let g : Edge → Bool := fun e => !decide (e.1 ∈ (mustR es).map some) && !decide (e.2 ∈ (mustC es).map some)
  refine s_setC 3 (L := es) (enc := dEdge) g dEdge G E2 [("_law_row", 4), ("_law_column", 5)] (src_lst (ed_here ((hld.same s1).same s2) (ed_var 0 rfl))) (blkOk_by (N := N__law_fewest_of) (sc := defScope s_law_fewest_of) (by decide +kernel)) (by omega) (fun s H0 C cl fp x hx => tg_tup2 4 5 G.nd G.calm)
    (fun s H0 C cl fp x hx => ts_one (td_and (td_ninEL (x := x.1) enc_opt (by decide) G.bk (er_var 4 rfl) (ed_here hL1' (ed_var 1 rfl))) fun _ => td_ninEL (x := x.2) enc_opt (by decide) G.bk (er_var 5 rfl) (ed_here hL2' (ed_var 2 rfl)))) (fun s H0 C cl fp x hx _ => er_t2 (er_var 4 rfl) (er_var 5 rfl)) (fun l3 σ3 H3 s3 hL3 E3 => ?_) (sw_true rfl rfl rfl (by decide +kernel))
  have hrest : ((es.filter g).filter fun e => !decide ((none : Option Int) ∈ [e.1, e.2])).map (fun e => (e.1.getD 0, e.2.getD 0)) = restE es := by
    unfold restE
    rw [List.filter_filter]
    congr 1
    refine filter_congr' fun e he => ?_
    obtain ⟨a, b⟩ := e
    cases a with
    | none => simp
    | some a =>
      cases b with
      | none => simp
      | some b => simp [g, Bool.and_comm]
  refine s_ret E3 (er_add (er_add (.is (er_lenL T.n_len (ed_here ((hL1.same s2).same s3) (ed_var 1 rfl))) (by rw [List.length_map])) (.is (er_lenL T.n_len (ed_here (hL2.same s3) (ed_var 2 rfl))) (by rw [List.length_map])))
    (ed_call (P := fun H v => Rep H (.int (maxN (restE es) : Nat)) v) (ok_apart T) G (al_one (ed_lc (L := es.filter g) (enc := dEdge) (fun e => !decide ((none : Option Int) ∈ [e.1, e.2])) dEdge G [("_law_edge", 6)] (src_lst (ed_here hL3 (ed_var 3 rfl))) (blkOk_by (N := N__law_fewest_of) (sc := defScope s_law_fewest_of) (by decide +kernel)) (by have := hfl g; omega) (fun s H0 C cl fp x hx => tg_name 6 G.nd)
      (fun s H0 C cl fp x hx => ts_one (td_ninE (x := (none : Option Int)) (l := [x.1, x.2]) enc_opt (by decide) G.bk er_non (er_var 6 rfl))) fun s H0 C cl fp x hx _ => er_var 6 rfl)) fun vs H pv Q q => ?_)) fun v H4 s4 r4 => ?_
  · obtain ⟨v, _, rfl, ⟨l, us, rfl, h1, r1⟩, rfl⟩ := pv
    refine ⟨l, restE es, rfl, ⟨us, h1, ?_⟩, ?_, fun e he => ?_, fun H' s => q _ H' s (.int _)⟩
    · rw [← hrest, List.map_map]
      refine (show _ = _ from List.map_congr_left fun e he => ?_) ▸ r1
      obtain ⟨_, h2⟩ := List.mem_filter.mp he
      obtain ⟨a, b⟩ := e
      cases a with
      | none => simp at h2
      | some a =>
        cases b with
        | none => simp at h2
        | some b => rfl
    · rw [← hrest, List.length_map]
      exact Nat.le_trans (List.length_filter_le _ _) (hfl g)
    · have := (restE_mem (es := es) (r := e.1) (c := e.2)).mp he
      exact hok.r _ this.1 e.1 rfl
  · cases r4
    have := q H4 (((s1.trans s2).trans s3).trans s4)
    unfold fewN at this
    rw [show (((mustR es).length + (mustC es).length + maxN (restE es) : Nat) : Int) = ((mustR es).length : Int) + ((mustC es).length : Int) + (maxN (restE es) : Int) by omega] at this
    exact this
abbrev Acc := (Int × Int) × Nat
noncomputable def accL (fs : List Films) (s : Seen) (fd : Bool) : List Acc := (truthsOf fs).filterMap fun x => (demandsOf x.2 s fd).map fun es => (x.1, fewN es)
def dAcc (x : Acc) : D := .tup [.int x.1.1, .int x.1.2, .int (x.2 : Nat)]
theorem truthsFrom_ok {B : Boards} : ∀ (fs : List Films) (i : Nat), (∀ f ∈ fs, FilmOk B 4 f) → ∀ x ∈ truthsFrom i fs, FilmOk B 4 x.2
  | [], _, _, x, hx => by cases hx
  | f :: fs, i, h, x, hx => by
    rcases (List.mem_append.mp hx) with h1 | h1
    · obtain ⟨b, _, rfl⟩ := List.mem_map.mp h1
      exact (h f List.mem_cons_self).turn
    · exact truthsFrom_ok fs (i + 1) (fun g hg => h g (List.mem_cons_of_mem _ hg)) x h1
theorem accL_len (fs : List Films) (s : Seen) (fd : Bool) (h3 : fs.length ≤ 3) (h4 : ∀ f ∈ fs, f.length ≤ 4) : (accL fs s fd).length ≤ 12 := by
  have h1 := List.length_filterMap_le (fun x : (Int × Int) × Films => (demandsOf x.2 s fd).map fun es => (x.1, fewN es)) (truthsOf fs)
  have h2 := truthsFrom_len fs 0 4 h4
  unfold accL
  unfold truthsOf at h1 ⊢
  omega
theorem ok_fewest_all (T : Tx K mg) : DefOk P w K mg base 4 "_law_fewest_all" (fun vs H Q _ => ∃ (lf : Addr) (B : Boards) (fs : List Films) (s : Seen) (fd : Bool) (v2 v3 : V), vs = [.ref lf, v2, v3] ∧ LstAt H lf (fs.map dFilm) ∧ Rep H (dSeen s) v2 ∧ Rep H (.bl fd) v3 ∧ GoodB B ∧ FilmsOk B fs ∧ SeenOk B s ∧
    ∀ l' H', H l' = none → Same H H' → LstAt H' l' ((accL fs s fd).map dAcc) → Q (.ref l') H') := by
  refine T.d__law_fewest_all (fun vs H Q E ⟨lf, B, fs, s, fd, v2, v3, ev, _⟩ => by subst ev; rfl) fun X vs H Q E ⟨f, cdv, A, outer, s, e⟩ G ⟨lf, B, fs, se, fd, v2, v3, ev, hlf, r2, r3, hB, hfs, hse, q⟩ => ?_
  subst e ev
  have E := env_p (N := N__law_fewest_all) (Ps' := [rf lf, R (dSeen se), R (.bl fd)]) (vs := [.ref lf, v2, v3]) (H := H) (.cons rfl (.cons r2 (.cons r3 .nil)))
  have h4 : ∀ f ∈ fs, f.length ≤ 4 := fun f hf => (hfs.ok f hf).h1
  refine s_setD 3 G E ad_nil fun lo σ1 H1 hlo s1 hLo E1 => ?_
  refine s_forN (ds := (truthsOf fs).map dTruth) G .never E1 (ed_callS (ok_t_truths T) (G.mono (by decide)) (al_one (ed_here (hlf.same s1) (ed_var 0 rfl))) fun vs H2 s2 pv Q q => ?_) fun H2 a s2 ha hLa E2 => ?_
  · obtain ⟨v, _, rfl, ⟨l, us, rfl, h1, r1⟩, rfl⟩ := pv
    exact ⟨l, fs, rfl, ⟨us, h1, r1⟩, hfs.h1, h4, fun l' H' hl' s' hL => q _ H' s' ⟨l', rfl, s2.free hl', hL⟩⟩
  have halo : a ≠ lo := by intro z; subst z; obtain ⟨us, e, _⟩ := hLo; rw [e] at ha; cases ha
  have hlo0 : H lo = none := hlo
  let acc : List ((Int × Int) × Films) → List Acc := fun l => l.filterMap fun x => (demandsOf x.2 se fd).map fun es => (x.1, fewN es)
  have htl : (truthsOf fs).length ≤ 12 := by
    have h2 := truthsFrom_len fs 0 4 h4
    have := hfs.h1
    unfold truthsOf; omega
  refine ⟨fun i σ' H' => Same H H' ∧ (Le H2 H' ∧ H' a = H2 a) ∧ LstAt H' lo ((acc ((truthsOf fs).take i)).map dAcc) ∧ Env [some (rf lf), some (R (dSeen se)), some (R (.bl fd)), some (rf lo), none, none, none] σ' H', ?_, ?_, ?_, ?_⟩
  · exact ⟨s1.trans s2, ⟨Le.refl _, rfl⟩, hLo.same s2, E2⟩
  · rintro i σ' H' ⟨_, h, _⟩; exact h
  · rintro i d v σ' H' hd ⟨sa, ⟨la, ea⟩, hL, E3⟩ rd
    obtain ⟨x, hx, rfl⟩ := get_map hd
    have hxf : FilmOk B 4 x.2 := truthsFrom_ok fs 0 hfs.ok x (List.mem_of_getElem? hx)
    have hF := fine_of hB hxf hse
    refine g_tup2 (d := dDot x.1) (d' := dFilm x.2) 4 5 G rd fun u1 u2 ru1 ru2 => ?_
    have E4 := (E3.set 4 (P := R (dDot x.1)) ru1).set 5 (P := R (dFilm x.2)) ru2
    have hsnoc : acc ((truthsOf fs).take (i + 1)) = acc ((truthsOf fs).take i) ++ (((demandsOf x.2 se fd).map fun es => (x.1, fewN es)).toList) := by
      show List.filterMap _ _ = List.filterMap _ _ ++ _
      rw [take_snoc hx, List.filterMap_append]; rfl
    have hacc : (acc ((truthsOf fs).take i)).length ≤ 12 := by
      have h1 := List.length_filterMap_le (fun x : (Int × Int) × Films => (demandsOf x.2 se fd).map fun es => (x.1, fewN es)) ((truthsOf fs).take i)
      rw [List.length_take] at h1
      show (List.filterMap _ _).length ≤ 12
      omega
    refine s_mid 6 G (fun v H5 => (demandsOf x.2 se fd = none ∧ v = .non ∧ Same H' H5) ∨ ∃ es l5, demandsOf x.2 se fd = some es ∧ v = .ref l5 ∧ Same H' H5 ∧ LstAt H5 l5 (es.map dEdge)) ?_ fun v H5 hv => ?_
    · refine we_call (ok_demands T) (G.mono (by decide)) ?_
      refine (ad_cons (er_var 5 rfl) (ad_cons (er_var 1 rfl) (ad_cons (er_tup ad_nil) (ad_one (er_var 2 rfl))))).run _ _ _ E4.en fun vs H5 s5 r5 => ?_
      exact ⟨x.2, se, fd, r5, hF, fun hn H6 s6 => .inl ⟨hn, rfl, s5.trans s6⟩, fun es hes l' H6 hl' s6 hL6 => .inr ⟨es, l', hes, rfl, s5.trans s6, hL6⟩⟩
    · rcases hv with ⟨hn, ev, s5⟩ | ⟨es, l5, hes, ev, s5, hL5⟩
      · subst ev
        have E5 := (E4.same s5).set 6 (P := R .non) .non
        refine s_skip E5 (.is (td_notN rfl (er_var 6 rfl)) rfl) fun H6 s6 E6 => s_nil ?_
        refine ⟨sa.trans (s5.trans s6), ⟨la.trans (.of (s5.trans s6)), ?_⟩, ?_, E6.fg (.k (.k (.k (.k (.d (.d (.d .nil)))))))⟩
        · obtain ⟨us, e, _⟩ := hLa
          rw [e] at ea ⊢
          exact (s5.trans s6) _ _ ea
        · rw [hsnoc, hn]
          show LstAt H6 lo ((_ ++ []).map dAcc)
          rw [List.append_nil]
          exact hL.same (s5.trans s6)
      · subst ev
        have E5 := (E4.same s5).set 6 (P := rf l5) rfl
        have hEs := demands_ok hB hxf hse hes
        refine s_if E5 (td_refN (ed_var 6 rfl)) (fun _ H6 s6 E6 => ?_) fun hk => by cases hk
        have s56 := s5.trans s6
        refine s_append (d := dAcc (x.1, fewN es)) E6 (hL.same s56) (ed_var 3 rfl) (er_cat (ds := [.int x.1.1, .int x.1.2]) (es := [.int (fewN es : Nat)]) (by simp) (er_var 4 rfl) (er_t1 (ed_callS (ok_fewest_of T) G (al_one (ed_here (hL5.same s6) (ed_var 6 rfl))) fun vs H7 s7 pv Q q => ?_))) (by rw [List.length_map]; omega) fun H7 s7 hL7 E7 => s_nil (s_nil ?_)
        · obtain ⟨v, _, rfl, ⟨l, us, rfl, h1, r1⟩, rfl⟩ := pv
          exact ⟨l, es, rfl, ⟨us, h1, r1⟩, hEs, fun H8 s8 => q _ H8 s8 (.int _)⟩
        · refine ⟨fun b o hb => s7 b o (fun e => by subst e; rw [hlo0] at hb; cases hb) (s56 _ _ (sa _ _ hb)), ⟨(la.trans (.of s56)).trans ((hL.same s56).le s7), ?_⟩, ?_, E7.fg (.k (.k (.k (.k (.d (.d (.d .nil)))))))⟩
          · obtain ⟨us, e, _⟩ := hLa
            rw [e] at ea ⊢
            exact s7 _ _ halo (s56 _ _ ea)
          · rw [hsnoc, hes, List.map_append]; exact hL7
  · rintro σ' H' ⟨sa, _, hL, E3⟩
    rw [List.length_map, List.take_length] at hL
    refine s_ret E3 (ed_var 3 rfl) fun v H4 s4 ev => ?_
    obtain rfl : v = .ref lo := ev
    exact q lo H4 hlo (sa.trans s4) (hL.same s4)
end
end K31
namespace K31
open L2 PySem PySem.Spec PyProof.Rows
def D.ty : D → Option String
  | .non => some "NoneType"
  | .bl _ => some "bool"
  | .int _ => some "int"
  | .str _ => some "str"
  | .tup _ => some "tuple"
  | _ => none
theorem Rep.ty {K : PySem.W.Frag} {H : Hp} {d : D} {v : V} {t : String} (r : Rep H d v) (h : d.ty = some t) : TyX K H v (.type t) := by
  cases r with
  | non => cases h; exact .base .non
  | bl b => cases h; exact .base (.bl b)
  | int i => cases h; exact .base (.int i)
  | str s => cases h; exact .base (.str s)
  | tup h1 _ => cases h; exact .base (.tup h1)
  | any => cases h
  | obj => cases h
section
variable {X : Cx} {Hz : Hp} {ρ : Rho} {a b c e o : Expr} {es : List Expr} {pos p p2 pp : Pos} {k : Nat}
/-- a built-in type as a value -/
theorem pe_bty {x : Str} {T : String} (hg : Gl X x) (hm : X.mg x = none) (hv : bootBuiltins x = some (.type T)) (hn : x ≠ "__name__" := by decide) (hd : (x == ("__debug__" : Str)) = false := by decide) : PE X (.Name x pos) (tC (.ty T)) :=
  ⟨fun _ _ _ H _ I h => ld_blt I hg hm hv ⟨.ty T, H, I, rfl, h⟩ hn hd⟩
theorem ed_bty {x : Str} {T : String} (hm : X.mg x = none) (hv : bootBuiltins x = some (.type T)) (hg : Gl X x := by rfl) (hn : x ≠ "__name__" := by decide) (hd : (x == ("__debug__" : Str)) = false := by decide) : ED X Hz ρ (.Name x pos) (fun _ v => v = .ty T) :=
  .by (pe_bty hg hm hv hn hd) fun σ H Q E q => q _ H (Same.refl H) rfl
theorem stb_eq {v : V} : Stb (fun _ u => u = v) := ⟨fun _ h => h⟩
theorem er_isi {d : D} {t T : String} {r : Bool} (hm : X.mg "isinstance" = none) (ht : d.ty = some t) (hk : kitB t T = some r) (ha : ER X Hz ρ a d) (hb : ED X Hz ρ b (fun _ v => v = .ty T)) (hg : Gl X "isinstance" := by rfl) (hs : starEach [a, b] X.env = (false, eval a X.env) :: starEach [b] X.env := by rfl) (hs2 : starEach [b] X.env = (false, eval b X.env) :: starEach [] X.env := by rfl) (hpl : (backTo pos (starEach [b] X.env)).any (·.1) = false := by rfl) :
    ER X Hz ρ (.Call (.Name "isinstance" p) [a, b] [] pos) (.bl r) :=
  ed_cb call_isi hm (by decide +kernel) (ap_cons stb_R ha (ap_cons stb_eq hb ap_nil hs2) hs) (fun vs H r Q q => by
    obtain ⟨v, _, rfl, rv, u, _, rfl, rfl, rfl⟩ := r
    exact ⟨v, _, _, _, _, rfl, .ty T, rv.ty ht, kit_ty hk, q _ H (Same.refl H) (.bl _)⟩) hg (by decide) (by decide) hs hpl
theorem er_chain {i j m : Int} (ha : ER X Hz ρ a (.int i)) (hb : ER X Hz ρ b (.int j)) (hc : ER X Hz ρ c (.int m)) (hm : lastMarks [.LtE, .LtE] [b, c] = false := by with_unfolding_all rfl) : ER X Hz ρ (.Compare a [.LtE, .LtE] [b, c] pos) (.bl (decide (i ≤ j) && decide (j ≤ m))) := by
  refine .by (pe_chain op_le op_le pe_W pe_W pe_W hm) fun σ H Q E q => ?_
  refine ha.run σ H _ E fun v H1 s1 r1 => ?_
  refine hb.run σ H1 _ (E.same s1) fun u H2 s2 r2 => ?_
  cases r1; cases r2
  refine ⟨i, j, rfl, rfl, _, rfl, ?_⟩
  cases h : decide (i ≤ j) with
  | true =>
    refine iteT (hc.run σ H2 _ (E.same (s1.trans s2)) fun w H3 s3 r3 => ?_)
    cases r3
    exact ⟨j, m, rfl, rfl, by rw [h, Bool.true_and] at q; exact q _ H3 ((s1.trans s2).trans s3) (.bl _)⟩
  | false => exact iteF (by rw [h, Bool.false_and] at q; exact q _ H2 (s1.trans s2) (.bl _))
theorem td_chain {i j m : Int} (ha : ER X Hz ρ a (.int i)) (hb : ER X Hz ρ b (.int j)) (hc : ER X Hz ρ c (.int m)) (hm : lastMarks [.LtE, .LtE] [b, c] = false := by with_unfolding_all rfl) : TD X Hz ρ (.Compare a [.LtE, .LtE] [b, c] pos) (decide (i ≤ j) && decide (j ≤ m)) := by
  refine .by (pt_chain op_le op_le pe_W pe_W pe_W hm) fun σ H Q E q => ?_
  refine ha.run σ H _ E fun v H1 s1 r1 => ?_
  refine hb.run σ H1 _ (E.same s1) fun u H2 s2 r2 => ?_
  cases r1; cases r2
  refine ⟨i, j, rfl, rfl, _, rfl, ?_⟩
  cases h : decide (i ≤ j) with
  | true =>
    refine iteT (hc.run σ H2 _ (E.same (s1.trans s2)) fun w H3 s3 r3 => ?_)
    cases r3
    exact ⟨j, m, rfl, rfl, _, rfl, by rw [h, Bool.true_and] at q; exact q H3 ((s1.trans s2).trans s3)⟩
  | false => exact iteF ⟨_, rfl, by rw [h, Bool.false_and] at q; exact q H2 (s1.trans s2)⟩
/-! ### in, texts -/
theorem inV_strs (i : Str) : ∀ l : List Str, inV (.str i) (l.map V.str) = decide (i ∈ l)
  | [] => rfl
  | j :: l => by
    have ih := inV_strs i l
    unfold inV at ih ⊢
    rw [List.map_cons, List.any_cons, ih]
    show (j == i || decide (i ∈ l)) = _
    by_cases h : i = j
    · subst h; simp
    · have h' : ¬ j = i := fun e => h e.symm
      simp [h, h']
theorem all_flat_strs : ∀ l : List Str, (l.map V.str).all flatV = true
  | [] => rfl
  | _ :: l => all_flat_strs l
theorem er_inS {i : Str} {l : List Str} (ha : ER X Hz ρ a (.str i)) (hb : ER X Hz ρ b (dStrs l)) (hm : behindInMarks .In b = false := by rfl) : ER X Hz ρ (.Compare a [.In] [b] pos) (.bl (decide (i ∈ l))) :=
  er_cmpR op_in_seq hm ha hb fun x y H p1 p2 Q q => by
    cases p1
    cases p2 with
    | tup h r =>
      have := r.strs
      subst this
      exact ⟨_, _, rfl, .inr (SqT.of h), rfl, all_flat_strs l, by rw [inV_strs]; exact q⟩
theorem er_inSL {i : Str} {l : List Str} (ha : ER X Hz ρ a (.str i)) (hb : ED X Hz ρ b (Lst (l.map D.str))) (hm : behindInMarks .In b = false := by rfl) : ER X Hz ρ (.Compare a [.In] [b] pos) (.bl (decide (i ∈ l))) :=
  er_cmp op_in_seq hm stb_R ha hb fun x y H p1 p2 Q q => by
    cases p1
    obtain ⟨t, vs, rfl, h, r⟩ := p2
    have := r.strs
    subst this
    exact ⟨_, _, rfl, .inl (SqL.of h), rfl, all_flat_strs l, by rw [inV_strs]; exact q⟩
theorem td_ninStr {s : List Nat} {c : Nat} (ha : ER X Hz ρ a (.str ⟨#[c]⟩)) (hb : ER X Hz ρ b (.str ⟨s.toArray⟩)) (hm : behindInMarks .NotIn b = false := by rfl) : TD X Hz ρ (.Compare a [.NotIn] [b] pos) (!decide (c ∈ s)) :=
  td_opR op_notIn_str hm ha hb fun x y H p1 p2 Q q => by
    cases p1; cases p2
    exact ⟨_, _, rfl, rfl, by
      have := StrLaws.found_one ⟨s.toArray⟩ c
      simp only at this
      rw [this]
      exact q⟩
/-- dots in order -/
theorem er_ltDot {p q : Dot} (G : GX X k) (ha : ER X Hz ρ a (dDot p)) (hb : ER X Hz ρ b (dDot q)) (hm : behindInMarks .Lt b = false := by rfl) : ER X Hz ρ (.Compare a [.Lt] [b] pos) (.bl (decide (ltDot p q))) :=
  er_cmpR (op_ltT G.hu0) hm ha hb fun x y H p1 p2 Q qq => by
    obtain ⟨t, rfl, h1, _⟩ := dotOf_rep p1
    obtain ⟨u, rfl, h2, _⟩ := dotOf_rep p2
    refine ⟨t, u, [p.1, p.2], [q.1, q.2], rfl, rfl, SqT.of h1, SqT.of h2, ?_⟩
    have : HT.lexLt [p.1, p.2] [q.1, q.2] = decide (ltDot p q) := by
      refine bool_iff ?_
      rw [decide_eq_true_eq]
      unfold ltDot
      simp only [HT.lexLt_cons, HT.lexLt_nil_nil]
      by_cases e : p.1 = q.1
      · rw [if_pos e]
        by_cases e2 : p.2 = q.2
        · rw [if_pos e2]; simp [e, e2]
        · rw [if_neg e2]; simp [e]
      · rw [if_neg e]; simp [e]
    rw [this]
    exact qq
end
end K31
namespace K31
open L2 PySem PySem.Spec PyProof.Rows
section
variable {P : Program} {w : World}
variable {K : PySem.W.Frag} {mg : Str → Option Value} {base : Heap}
/-- the class x's def m keeps the promise sp -/
def MethOk (P : Program) (w : World) (K : PySem.W.Frag) (mg : Str → Option Value) (base : Heap) (k : Nat) (x m : Str) (sp : Sp) : Prop := FnR P w K mg base CX0 k (He.ma K (He.ga K x) m) sp
/-- a def with defaults dv that fill up -/
theorem def_okD {x qual : Str} {st : Stmt} {f : Addr} {fd : FuncData} {N ps : List Str} {k : Nat} {sp : Sp} {dvs dv : List V} {ds : List Value} {kws : List (Str × V)}
    (F : FunD K x qual (defArgs st) (defBody st) (defScope st) dvs kws f fd) (hb : Binds K fd ps ds) (hd : Vals dv ds) (S : FnScope N ps (defScope st)) (len : ∀ vs H Q E, sp vs H Q E → vs.length = ps.length)
    (hbody : ∀ (X : Cx) (vs : List V) (H : Hp) (Q : VK) (E : XK), (∃ cdv A outer s, X = (cxOf CX0 P w K mg base N qual (defScope st) f cdv A outer s H E).nox) → GX X k → sp vs H Q E → WSs X (defBody st) { nx := fun _ H' => Q .non H', rt := Q } (L2.start N vs) H) :
    FnR P w K mg base CX0 (k + 1) f (fun vs H Q E => sp (vs ++ dv) H Q E) := by
  have ok : FnOk P w K mg base CX0 (k + 1) f fd ps sp := F.ok S len fun cdv A outer s H vs Q E hr h => ⟨_, PSs.nox pss_W, hbody _ vs H Q E ⟨cdv, A, outer, s, rfl⟩ ⟨rfl, S.nd, hr⟩ h⟩
  exact ok.raw hb hd
/-- a method by its body -/
theorem Tx.methOk (T : Tx K mg) {x m q : Str} {st : Stmt} {N ps : List Str} {k : Nat} {sp : Sp} (j : Nat)
    (hj : fn[j]? = some ⟨(x, some m), m, q, defArgs st, defBody st, defScope st, [], []⟩)
    (hb : ∀ (kV doc pm : Value) (an : Option Addr) (cdv ct : Value) (us : List Value), us.length = ps.length → bindArgs (PySem.W.fnOf m q (defArgs st) (defBody st) (defScope st) .none kV doc pm an cdv ct) ⟨us, []⟩ = pure (ps.zip us))
    (S : FnScope N ps (defScope st)) (len : ∀ vs H Q E, sp vs H Q E → vs.length = ps.length)
    (hbody : ∀ (X : Cx) (vs : List V) (H : Hp) (Q : VK) (E : XK), (∃ f cdv A outer s, X = (cxOf CX0 P w K mg base N q (defScope st) f cdv A outer s H E).nox) → GX X k → sp vs H Q E → WSs X (defBody st) { nx := fun _ H' => Q .non H', rt := Q } (L2.start N vs) H) :
    MethOk P w K mg base (k + 1) x m sp := by
  obtain ⟨fd, F⟩ := T.says.def_ j hj
  exact K31.def_ok (st := st) F (F.bindsN hb) S len fun X vs H Q E ⟨cdv, A, outer, s, e⟩ => hbody X vs H Q E ⟨_, cdv, A, outer, s, e⟩
abbrev N_Board___init__ : List Str := ["self", "rows", "row", "signs", "column", "sign", "dot"]
theorem sc_Board___init__ : FnScope N_Board___init__ ["self", "rows"] (defScope s_Board___init__) := ⟨rfl, rfl, rfl, by decide +kernel, rfl, by decide +kernel, by decide +kernel⟩
theorem Tx.m_Board___init__ (T : Tx K mg) {k : Nat} {sp : Sp} (len : ∀ vs H Q E, sp vs H Q E → vs.length = 2)
    (hbody : ∀ (X : Cx) (vs : List V) (H : Hp) (Q : VK) (E : XK), (∃ f cdv A outer s, X = (cxOf CX0 P w K mg base N_Board___init__ "Board.__init__" (defScope s_Board___init__) f cdv A outer s H E).nox) → GX X k → sp vs H Q E → WSs X (defBody s_Board___init__) { nx := fun _ H' => Q .non H', rt := Q } (L2.start N_Board___init__ vs) H) :
    MethOk P w K mg base (k + 1) "Board" "__init__" sp := T.methOk 65 rfl (fun _ _ _ _ _ _ us hl => match us, hl with | [_, _], _ => rfl) sc_Board___init__ len hbody
abbrev N_Board___contains__ : List Str := ["self", "value", "number"]
theorem sc_Board___contains__ : FnScope N_Board___contains__ ["self", "value"] (defScope s_Board___contains__) := ⟨rfl, rfl, rfl, by decide +kernel, rfl, by decide +kernel, by decide +kernel⟩
theorem Tx.m_Board___contains__ (T : Tx K mg) {k : Nat} {sp : Sp} (len : ∀ vs H Q E, sp vs H Q E → vs.length = 2)
    (hbody : ∀ (X : Cx) (vs : List V) (H : Hp) (Q : VK) (E : XK), (∃ f cdv A outer s, X = (cxOf CX0 P w K mg base N_Board___contains__ "Board.__contains__" (defScope s_Board___contains__) f cdv A outer s H E).nox) → GX X k → sp vs H Q E → WSs X (defBody s_Board___contains__) { nx := fun _ H' => Q .non H', rt := Q } (L2.start N_Board___contains__ vs) H) :
    MethOk P w K mg base (k + 1) "Board" "__contains__" sp := T.methOk 66 rfl (fun _ _ _ _ _ _ us hl => match us, hl with | [_, _], _ => rfl) sc_Board___contains__ len hbody
abbrev N_Board___eq__ : List Str := ["self", "other"]
theorem sc_Board___eq__ : FnScope N_Board___eq__ ["self", "other"] (defScope s_Board___eq__) := ⟨rfl, rfl, rfl, by decide +kernel, rfl, by decide +kernel, by decide +kernel⟩
theorem Tx.m_Board___eq__ (T : Tx K mg) {k : Nat} {sp : Sp} (len : ∀ vs H Q E, sp vs H Q E → vs.length = 2)
    (hbody : ∀ (X : Cx) (vs : List V) (H : Hp) (Q : VK) (E : XK), (∃ f cdv A outer s, X = (cxOf CX0 P w K mg base N_Board___eq__ "Board.__eq__" (defScope s_Board___eq__) f cdv A outer s H E).nox) → GX X k → sp vs H Q E → WSs X (defBody s_Board___eq__) { nx := fun _ H' => Q .non H', rt := Q } (L2.start N_Board___eq__ vs) H) :
    MethOk P w K mg base (k + 1) "Board" "__eq__" sp := T.methOk 67 rfl (fun _ _ _ _ _ _ us hl => match us, hl with | [_, _], _ => rfl) sc_Board___eq__ len hbody
abbrev N_Picture___init__ : List Str := ["self", "board", "dots", "dot"]
theorem sc_Picture___init__ : FnScope N_Picture___init__ ["self", "board", "dots"] (defScope s_Picture___init__) := ⟨rfl, rfl, rfl, by decide +kernel, rfl, by decide +kernel, by decide +kernel⟩
theorem Tx.m_Picture___init__ (T : Tx K mg) {k : Nat} {sp : Sp} (len : ∀ vs H Q E, sp vs H Q E → vs.length = 3)
    (hbody : ∀ (X : Cx) (vs : List V) (H : Hp) (Q : VK) (E : XK), (∃ f cdv A outer s, X = (cxOf CX0 P w K mg base N_Picture___init__ "Picture.__init__" (defScope s_Picture___init__) f cdv A outer s H E).nox) → GX X k → sp vs H Q E → WSs X (defBody s_Picture___init__) { nx := fun _ H' => Q .non H', rt := Q } (L2.start N_Picture___init__ vs) H) :
    MethOk P w K mg base (k + 1) "Picture" "__init__" (fun vs H Q E => sp (vs ++ []) H Q E) := by
  obtain ⟨fd, F⟩ := T.says.def_ 68 (d := d_Picture___init__) rfl
  obtain ⟨ds, hd, hb⟩ := F.binds1 (ps := ["self", "board", "dots"]) 3 1 (fun z => by cases z) rfl (fun _ _ _ _ _ _ _ us its hl h2 => match us, hl, its, h2 with | [_, _, _], _, [_], _ => ⟨_, rfl, rfl⟩)
  exact def_okD (st := s_Picture___init__) F hb hd sc_Picture___init__ len fun X vs H Q E ⟨cdv, A, outer, s, e⟩ => hbody X vs H Q E ⟨_, cdv, A, outer, s, e⟩
abbrev N_Picture___contains__ : List Str := ["self", "value"]
theorem sc_Picture___contains__ : FnScope N_Picture___contains__ ["self", "value"] (defScope s_Picture___contains__) := ⟨rfl, rfl, rfl, by decide +kernel, rfl, by decide +kernel, by decide +kernel⟩
theorem Tx.m_Picture___contains__ (T : Tx K mg) {k : Nat} {sp : Sp} (len : ∀ vs H Q E, sp vs H Q E → vs.length = 2)
    (hbody : ∀ (X : Cx) (vs : List V) (H : Hp) (Q : VK) (E : XK), (∃ f cdv A outer s, X = (cxOf CX0 P w K mg base N_Picture___contains__ "Picture.__contains__" (defScope s_Picture___contains__) f cdv A outer s H E).nox) → GX X k → sp vs H Q E → WSs X (defBody s_Picture___contains__) { nx := fun _ H' => Q .non H', rt := Q } (L2.start N_Picture___contains__ vs) H) :
    MethOk P w K mg base (k + 1) "Picture" "__contains__" sp := T.methOk 69 rfl (fun _ _ _ _ _ _ us hl => match us, hl with | [_, _], _ => rfl) sc_Picture___contains__ len hbody
abbrev N_Film___init__ : List Str := ["self", "pictures"]
theorem sc_Film___init__ : FnScope N_Film___init__ ["self", "pictures"] (defScope s_Film___init__) := ⟨rfl, rfl, rfl, by decide +kernel, rfl, by decide +kernel, by decide +kernel⟩
theorem Tx.m_Film___init__ (T : Tx K mg) {k : Nat} {sp : Sp} (len : ∀ vs H Q E, sp vs H Q E → vs.length = 2)
    (hbody : ∀ (X : Cx) (vs : List V) (H : Hp) (Q : VK) (E : XK), (∃ f cdv A outer s, X = (cxOf CX0 P w K mg base N_Film___init__ "Film.__init__" (defScope s_Film___init__) f cdv A outer s H E).nox) → GX X k → sp vs H Q E → WSs X (defBody s_Film___init__) { nx := fun _ H' => Q .non H', rt := Q } (L2.start N_Film___init__ vs) H) :
    MethOk P w K mg base (k + 1) "Film" "__init__" sp := T.methOk 70 rfl (fun _ _ _ _ _ _ us hl => match us, hl with | [_, _], _ => rfl) sc_Film___init__ len hbody
abbrev N_Film_picture_at : List Str := ["self", "tick"]
theorem sc_Film_picture_at : FnScope N_Film_picture_at ["self", "tick"] (defScope s_Film_picture_at) := ⟨rfl, rfl, rfl, by decide +kernel, rfl, by decide +kernel, by decide +kernel⟩
theorem Tx.m_Film_picture_at (T : Tx K mg) {k : Nat} {sp : Sp} (len : ∀ vs H Q E, sp vs H Q E → vs.length = 2)
    (hbody : ∀ (X : Cx) (vs : List V) (H : Hp) (Q : VK) (E : XK), (∃ f cdv A outer s, X = (cxOf CX0 P w K mg base N_Film_picture_at "Film.picture_at" (defScope s_Film_picture_at) f cdv A outer s H E).nox) → GX X k → sp vs H Q E → WSs X (defBody s_Film_picture_at) { nx := fun _ H' => Q .non H', rt := Q } (L2.start N_Film_picture_at vs) H) :
    MethOk P w K mg base (k + 1) "Film" "picture_at" sp := T.methOk 71 rfl (fun _ _ _ _ _ _ us hl => match us, hl with | [_, _], _ => rfl) sc_Film_picture_at len hbody
abbrev N_Film_lit_at : List Str := ["self", "tick"]
theorem sc_Film_lit_at : FnScope N_Film_lit_at ["self", "tick"] (defScope s_Film_lit_at) := ⟨rfl, rfl, rfl, by decide +kernel, rfl, by decide +kernel, by decide +kernel⟩
theorem Tx.m_Film_lit_at (T : Tx K mg) {k : Nat} {sp : Sp} (len : ∀ vs H Q E, sp vs H Q E → vs.length = 2)
    (hbody : ∀ (X : Cx) (vs : List V) (H : Hp) (Q : VK) (E : XK), (∃ f cdv A outer s, X = (cxOf CX0 P w K mg base N_Film_lit_at "Film.lit_at" (defScope s_Film_lit_at) f cdv A outer s H E).nox) → GX X k → sp vs H Q E → WSs X (defBody s_Film_lit_at) { nx := fun _ H' => Q .non H', rt := Q } (L2.start N_Film_lit_at vs) H) :
    MethOk P w K mg base (k + 1) "Film" "lit_at" sp := T.methOk 72 rfl (fun _ _ _ _ _ _ us hl => match us, hl with | [_, _], _ => rfl) sc_Film_lit_at len hbody
abbrev N_Film___len__ : List Str := ["self"]
theorem sc_Film___len__ : FnScope N_Film___len__ ["self"] (defScope s_Film___len__) := ⟨rfl, rfl, rfl, by decide +kernel, rfl, by decide +kernel, by decide +kernel⟩
theorem Tx.m_Film___len__ (T : Tx K mg) {k : Nat} {sp : Sp} (len : ∀ vs H Q E, sp vs H Q E → vs.length = 1)
    (hbody : ∀ (X : Cx) (vs : List V) (H : Hp) (Q : VK) (E : XK), (∃ f cdv A outer s, X = (cxOf CX0 P w K mg base N_Film___len__ "Film.__len__" (defScope s_Film___len__) f cdv A outer s H E).nox) → GX X k → sp vs H Q E → WSs X (defBody s_Film___len__) { nx := fun _ H' => Q .non H', rt := Q } (L2.start N_Film___len__ vs) H) :
    MethOk P w K mg base (k + 1) "Film" "__len__" sp := T.methOk 73 rfl (fun _ _ _ _ _ _ us hl => match us, hl with | [_], _ => rfl) sc_Film___len__ len hbody
abbrev N_Film___rshift__ : List Str := ["self", "many", "at"]
theorem sc_Film___rshift__ : FnScope N_Film___rshift__ ["self", "many"] (defScope s_Film___rshift__) := ⟨rfl, rfl, rfl, by decide +kernel, rfl, by decide +kernel, by decide +kernel⟩
theorem Tx.m_Film___rshift__ (T : Tx K mg) {k : Nat} {sp : Sp} (len : ∀ vs H Q E, sp vs H Q E → vs.length = 2)
    (hbody : ∀ (X : Cx) (vs : List V) (H : Hp) (Q : VK) (E : XK), (∃ f cdv A outer s, X = (cxOf CX0 P w K mg base N_Film___rshift__ "Film.__rshift__" (defScope s_Film___rshift__) f cdv A outer s H E).nox) → GX X k → sp vs H Q E → WSs X (defBody s_Film___rshift__) { nx := fun _ H' => Q .non H', rt := Q } (L2.start N_Film___rshift__ vs) H) :
    MethOk P w K mg base (k + 1) "Film" "__rshift__" sp := T.methOk 74 rfl (fun _ _ _ _ _ _ us hl => match us, hl with | [_, _], _ => rfl) sc_Film___rshift__ len hbody
abbrev N_Living___init__ : List Str := ["self", "seen", "alive", "dying", "tick", "picture", "dot", "wire"]
theorem sc_Living___init__ : FnScope N_Living___init__ ["self", "seen", "alive", "dying"] (defScope s_Living___init__) := ⟨rfl, rfl, rfl, by decide +kernel, rfl, by decide +kernel, by decide +kernel⟩
theorem Tx.m_Living___init__ (T : Tx K mg) {k : Nat} {sp : Sp} (len : ∀ vs H Q E, sp vs H Q E → vs.length = 4)
    (hbody : ∀ (X : Cx) (vs : List V) (H : Hp) (Q : VK) (E : XK), (∃ f cdv A outer s, X = (cxOf CX0 P w K mg base N_Living___init__ "Living.__init__" (defScope s_Living___init__) f cdv A outer s H E).nox) → GX X k → sp vs H Q E → WSs X (defBody s_Living___init__) { nx := fun _ H' => Q .non H', rt := Q } (L2.start N_Living___init__ vs) H) :
    MethOk P w K mg base (k + 1) "Living" "__init__" sp := T.methOk 75 rfl (fun _ _ _ _ _ _ us hl => match us, hl with | [_, _, _, _], _ => rfl) sc_Living___init__ len hbody
abbrev N_Living_may_be_dead : List Str := ["self", "wire", "tick"]
theorem sc_Living_may_be_dead : FnScope N_Living_may_be_dead ["self", "wire", "tick"] (defScope s_Living_may_be_dead) := ⟨rfl, rfl, rfl, by decide +kernel, rfl, by decide +kernel, by decide +kernel⟩
theorem Tx.m_Living_may_be_dead (T : Tx K mg) {k : Nat} {sp : Sp} (len : ∀ vs H Q E, sp vs H Q E → vs.length = 3)
    (hbody : ∀ (X : Cx) (vs : List V) (H : Hp) (Q : VK) (E : XK), (∃ f cdv A outer s, X = (cxOf CX0 P w K mg base N_Living_may_be_dead "Living.may_be_dead" (defScope s_Living_may_be_dead) f cdv A outer s H E).nox) → GX X k → sp vs H Q E → WSs X (defBody s_Living_may_be_dead) { nx := fun _ H' => Q .non H', rt := Q } (L2.start N_Living_may_be_dead vs) H) :
    MethOk P w K mg base (k + 1) "Living" "may_be_dead" sp := T.methOk 76 rfl (fun _ _ _ _ _ _ us hl => match us, hl with | [_, _, _], _ => rfl) sc_Living_may_be_dead len hbody
abbrev N_Living_edge : List Str := ["self", "tick", "dot", "row", "column", "here"]
theorem sc_Living_edge : FnScope N_Living_edge ["self", "tick", "dot"] (defScope s_Living_edge) := ⟨rfl, rfl, rfl, by decide +kernel, rfl, by decide +kernel, by decide +kernel⟩
theorem Tx.m_Living_edge (T : Tx K mg) {k : Nat} {sp : Sp} (len : ∀ vs H Q E, sp vs H Q E → vs.length = 3)
    (hbody : ∀ (X : Cx) (vs : List V) (H : Hp) (Q : VK) (E : XK), (∃ f cdv A outer s, X = (cxOf CX0 P w K mg base N_Living_edge "Living.edge" (defScope s_Living_edge) f cdv A outer s H E).nox) → GX X k → sp vs H Q E → WSs X (defBody s_Living_edge) { nx := fun _ H' => Q .non H', rt := Q } (L2.start N_Living_edge vs) H) :
    MethOk P w K mg base (k + 1) "Living" "edge" sp := T.methOk 77 rfl (fun _ _ _ _ _ _ us hl => match us, hl with | [_, _, _], _ => rfl) sc_Living_edge len hbody
abbrev N_Account___init__ : List Str := ["self", "film", "seen", "dying"]
theorem sc_Account___init__ : FnScope N_Account___init__ ["self", "film", "seen", "dying"] (defScope s_Account___init__) := ⟨rfl, rfl, rfl, by decide +kernel, rfl, by decide +kernel, by decide +kernel⟩
theorem Tx.m_Account___init__ (T : Tx K mg) {k : Nat} {sp : Sp} (len : ∀ vs H Q E, sp vs H Q E → vs.length = 4)
    (hbody : ∀ (X : Cx) (vs : List V) (H : Hp) (Q : VK) (E : XK), (∃ f cdv A outer s, X = (cxOf CX0 P w K mg base N_Account___init__ "Account.__init__" (defScope s_Account___init__) f cdv A outer s H E).nox) → GX X k → sp vs H Q E → WSs X (defBody s_Account___init__) { nx := fun _ H' => Q .non H', rt := Q } (L2.start N_Account___init__ vs) H) :
    MethOk P w K mg base (k + 1) "Account" "__init__" sp := T.methOk 78 rfl (fun _ _ _ _ _ _ us hl => match us, hl with | [_, _, _, _], _ => rfl) sc_Account___init__ len hbody
abbrev N_Account_fewest : List Str := ["self"]
theorem sc_Account_fewest : FnScope N_Account_fewest ["self"] (defScope s_Account_fewest) := ⟨rfl, rfl, rfl, by decide +kernel, rfl, by decide +kernel, by decide +kernel⟩
theorem Tx.m_Account_fewest (T : Tx K mg) {k : Nat} {sp : Sp} (len : ∀ vs H Q E, sp vs H Q E → vs.length = 1)
    (hbody : ∀ (X : Cx) (vs : List V) (H : Hp) (Q : VK) (E : XK), (∃ f cdv A outer s, X = (cxOf CX0 P w K mg base N_Account_fewest "Account.fewest" (defScope s_Account_fewest) f cdv A outer s H E).nox) → GX X k → sp vs H Q E → WSs X (defBody s_Account_fewest) { nx := fun _ H' => Q .non H', rt := Q } (L2.start N_Account_fewest vs) H) :
    MethOk P w K mg base (k + 1) "Account" "fewest" sp := T.methOk 79 rfl (fun _ _ _ _ _ _ us hl => match us, hl with | [_], _ => rfl) sc_Account_fewest len hbody
theorem Tx.d_is_integer2 (T : Tx K mg) {k : Nat} {sp : Sp} (len : ∀ vs H Q E, sp vs H Q E → vs.length = 3)
    (hbody : ∀ (X : Cx) (vs : List V) (H : Hp) (Q : VK) (E : XK), (∃ f cdv A outer s, X = (cxOf CX0 P w K mg base N_is_integer "is_integer" (defScope s_is_integer) f cdv A outer s H E).nox) → GX X k → sp vs H Q E → WSs X (defBody s_is_integer) { nx := fun _ H' => Q .non H', rt := Q } (L2.start N_is_integer vs) H) :
    DefOk P w K mg base (k + 1) "is_integer" (fun vs H Q E => sp (vs ++ [.non]) H Q E) := by
  obtain ⟨fd, F⟩ := T.says.def_ 0 (d := d_is_integer) rfl
  obtain ⟨ds, hd, hb⟩ := F.binds1 (ps := ["value", "least", "most"]) 2 0 (fun z => by cases z) rfl (fun _ _ _ _ _ _ _ us its hl h2 => match us, hl, its, h2 with | [_, _], _, [_], _ => ⟨_, rfl, rfl⟩)
  exact ⟨_, T.g_is_integer, F.kp, def_okD (st := s_is_integer) F hb hd sc_is_integer len fun X vs H Q E ⟨cdv, A, outer, s, e⟩ => hbody X vs H Q E ⟨_, cdv, A, outer, s, e⟩⟩
theorem Tx.d_is_integer3 (T : Tx K mg) {k : Nat} {sp : Sp} (len : ∀ vs H Q E, sp vs H Q E → vs.length = 3)
    (hbody : ∀ (X : Cx) (vs : List V) (H : Hp) (Q : VK) (E : XK), (∃ f cdv A outer s, X = (cxOf CX0 P w K mg base N_is_integer "is_integer" (defScope s_is_integer) f cdv A outer s H E).nox) → GX X k → sp vs H Q E → WSs X (defBody s_is_integer) { nx := fun _ H' => Q .non H', rt := Q } (L2.start N_is_integer vs) H) :
    DefOk P w K mg base (k + 1) "is_integer" (fun vs H Q E => sp (vs ++ []) H Q E) := by
  obtain ⟨fd, F⟩ := T.says.def_ 0 (d := d_is_integer) rfl
  obtain ⟨ds, hd, hb⟩ := F.binds1 (ps := ["value", "least", "most"]) 3 1 (fun z => by cases z) rfl (fun _ _ _ _ _ _ _ us its hl h2 => match us, hl, its, h2 with | [_, _, _], _, [_], _ => ⟨_, rfl, rfl⟩)
  exact ⟨_, T.g_is_integer, F.kp, def_okD (st := s_is_integer) F hb hd sc_is_integer len fun X vs H Q E ⟨cdv, A, outer, s, e⟩ => hbody X vs H Q E ⟨_, cdv, A, outer, s, e⟩⟩
end
end K31
namespace K31
open L2 PySem PySem.Spec PyProof.Rows
theorem k_int_int : kitB "int" "int" = some true := by decide +kernel
theorem k_int_bool : kitB "int" "bool" = some false := by decide +kernel
theorem k_tup_tup : kitB "tuple" "tuple" = some true := by decide +kernel
theorem k_str_str : kitB "str" "str" = some true := by decide +kernel
section
variable {P : Program} {w : World}
variable {K : PySem.W.Frag} {mg : Str → Option Value} {base : Heap}
def upB (i : Int) : Option Int → Bool
  | none => true
  | some h => decide (i ≤ h)
def intB (i lo : Int) (o : Option Int) : Bool := decide (lo ≤ i) && upB i o
def spInt : Sp := fun vs H Q _ => ∃ (i lo : Int) (o : Option Int), RepL H [.int i, .int lo, dOpt o] vs ∧ ∀ H', Same H H' → Q (.bl (intB i lo o)) H'
theorem body_int (T : Tx K mg) (X : Cx) (vs : List V) (H : Hp) (Q : VK) (E : XK) (e : ∃ f cdv A outer s, X = (cxOf CX0 P w K mg base N_is_integer "is_integer" (defScope s_is_integer) f cdv A outer s H E).nox) (G : GX X 0) (h : spInt vs H Q E) : WSs X (defBody s_is_integer) { nx := fun _ H' => Q .non H', rt := Q } (L2.start N_is_integer vs) H := by
  obtain ⟨f, cdv, A, outer, s, e⟩ := e
  obtain ⟨i, lo, o, r, q⟩ := h
  subst e
  have E := env_r (N := N_is_integer) r
  have hopt : (dOpt o).isAny = false ∧ (dOpt o).isNon = o.isNone := by cases o <;> exact ⟨rfl, rfl⟩
  refine s_if E (td_or3 (td_not (td_val (er_isi T.n_isinstance rfl k_int_int (er_var 0 rfl) (ed_bty T.n_int (by decide +kernel))))) (fun _ => td_val (er_isi T.n_isinstance rfl k_int_bool (er_var 0 rfl) (ed_bty T.n_bool (by decide +kernel)))) (fun _ _ => td_lt (er_var 0 rfl) (er_var 1 rfl))) (fun hk H1 s1 E1 => ?_) fun hk H1 s1 E1 => s_nil ?_
  · refine s_ret E1 er_bl fun v H2 s2 r2 => ?_
    cases r2
    have hlt : i < lo := by simpa using hk
    have := q H2 (s1.trans s2)
    unfold intB at this
    rw [decide_eq_false (by omega), Bool.false_and] at this
    exact this
  · have hge : ¬ i < lo := by simpa using hk
    have hb : intB i lo o = upB i o := by
      unfold intB
      rw [decide_eq_true (by omega), Bool.true_and]
    cases o with
    | none =>
      refine s_ret E1 (er_or (k := true) (l := true) (.is (er_isN (d := .non) rfl (er_var 2 rfl)) rfl) (fun h => by cases h)) fun v H2 s2 r2 => ?_
      cases r2
      have := q H2 (s1.trans s2)
      rw [hb] at this
      exact this
    | some h =>
      refine s_ret E1 (er_or (k := false) (.is (er_isN (d := .int h) rfl (er_var 2 rfl)) rfl) (fun _ => er_le (er_var 0 rfl) (er_var (d := .int h) 2 rfl))) fun v H2 s2 r2 => ?_
      cases r2
      have := q H2 (s1.trans s2)
      rw [hb] at this
      exact this
theorem spInt_len : ∀ vs H Q E, spInt vs H Q E → vs.length = 3 := fun vs H Q E ⟨i, lo, o, r, _⟩ => by have := r.length; simpa using this.symm
theorem ok_int2 (T : Tx K mg) : DefOk P w K mg base 1 "is_integer" (spF (fun z : Int × Int => [.int z.1, .int z.2]) (fun _ => True) fun z => .bl (intB z.1 z.2 none)) := by
  obtain ⟨f, h1, h2, h3⟩ := T.d_is_integer2 (P := P) (w := w) (base := base) (k := 0) spInt_len fun X vs H Q E e G h => body_int T X vs H Q E e G h
  refine ⟨f, h1, h2, ?_⟩
  intro A outer s H us vs Q E hr e0 r hs; refine h3 A outer s H us vs Q E hr e0 r ?_
  obtain ⟨z, rl, _, q⟩ := hs
  exact ⟨z.1, z.2, none, rl.append (.cons .non .nil), fun H' s' => q _ H' s' (.bl _)⟩
theorem ok_int3 (T : Tx K mg) : DefOk P w K mg base 1 "is_integer" (spF (fun z : Int × Int × Int => [.int z.1, .int z.2.1, .int z.2.2]) (fun _ => True) fun z => .bl (intB z.1 z.2.1 (some z.2.2))) := by
  obtain ⟨f, h1, h2, h3⟩ := T.d_is_integer3 (P := P) (w := w) (base := base) (k := 0) spInt_len fun X vs H Q E e G h => body_int T X vs H Q E e G h
  refine ⟨f, h1, h2, ?_⟩
  intro A outer s H us vs Q E hr e0 r hs; refine h3 A outer s H us vs Q E hr e0 r ?_
  obtain ⟨z, rl, _, q⟩ := hs
  exact ⟨z.1, z.2.1, some z.2.2, by rw [List.append_nil]; exact rl, fun H' s' => q _ H' s' (.bl _)⟩
theorem ok_is_tuple (T : Tx K mg) : DefOk P w K mg base 1 "is_tuple" (spF (fun z : List D × Int => [.tup z.1, .int z.2]) (fun _ => True) fun z => .bl (decide ((1 : Int) ≤ z.1.length) && decide ((z.1.length : Int) ≤ z.2))) := by
  refine T.d_is_tuple (spF_len fun _ => rfl) fun X vs H Q E ⟨f, cdv, A, outer, s, e⟩ G ⟨⟨ds, m⟩, r, _, q⟩ => ?_
  subst e
  have E := env_r (N := N_is_tuple) r
  exact s_ret E (er_and (k := true) (er_isi T.n_isinstance rfl k_tup_tup (er_var 0 rfl) (ed_bty T.n_tuple (by decide +kernel))) fun _ => er_chain er_int (er_lenT T.n_len (er_var 0 rfl)) (er_var 1 rfl)) fun v H' s r => q v H' s r
theorem ok_is_pair (T : Tx K mg) : DefOk P w K mg base 1 "is_pair" (spF (fun ds : List D => [.tup ds]) (fun _ => True) fun ds => .bl (decide ((ds.length : Int) = 2))) := by
  refine T.d_is_pair (spF_len fun _ => rfl) fun X vs H Q E ⟨f, cdv, A, outer, s, e⟩ G ⟨ds, r, _, q⟩ => ?_
  subst e
  have E := env_r (N := N_is_pair) r
  exact s_ret E (er_and (k := true) (er_isi T.n_isinstance rfl k_tup_tup (er_var 0 rfl) (ed_bty T.n_tuple (by decide +kernel))) fun _ => er_eqI (er_lenT T.n_len (er_var 0 rfl)) (er_gint (by rfl) T.c_PAIR)) fun v H' s r => q v H' s r
theorem zip_up {l : List Dot} (h : l.Pairwise ltDot) : (l.zip (l.drop 1)).all (fun x => decide (ltDot x.1 x.2)) = true := by
  rw [List.all_eq_true]
  rintro ⟨a, b⟩ hx
  rw [decide_eq_true_eq]
  obtain ⟨i, hi⟩ := List.mem_iff_getElem?.mp hx; rw [List.getElem?_zip_eq_some] at hi
  obtain ⟨h1, h2⟩ := hi
  rw [List.getElem?_drop] at h2
  have l1 := lt_of_get h1
  have l2 := lt_of_get h2
  have := List.pairwise_iff_getElem.mp h i (1 + i) l1 l2 (by omega)
  rw [(List.getElem?_eq_some_iff.mp h1).2, (List.getElem?_eq_some_iff.mp h2).2] at this
  exact this
theorem zip_upI {l : List Int} (h : l.Pairwise (· < ·)) : (l.zip (l.drop 1)).all (fun x => decide (x.1 < x.2)) = true := by
  rw [List.all_eq_true]
  rintro ⟨a, b⟩ hx
  rw [decide_eq_true_eq]
  obtain ⟨i, hi⟩ := List.mem_iff_getElem?.mp hx; rw [List.getElem?_zip_eq_some] at hi
  obtain ⟨h1, h2⟩ := hi
  rw [List.getElem?_drop] at h2
  have l1 := lt_of_get h1
  have l2 := lt_of_get h2
  have := List.pairwise_iff_getElem.mp h i (1 + i) l1 l2 (by omega)
  rw [(List.getElem?_eq_some_iff.mp h1).2, (List.getElem?_eq_some_iff.mp h2).2] at this
  exact this
theorem zipD_map {α : Type} (f : α → D) (l m : List α) : zipD (l.map f) (m.map f) = (l.zip m).map fun x => .tup [f x.1, f x.2] := by
  unfold zipD
  rw [List.zipWith_map, List.map_zip_eq_zipWith]; rfl
theorem ok_risingD (T : Tx K mg) : DefOk P w K mg base 1 "is_rising" (spF (fun l : List Dot => [dLit l]) (fun l => l.Pairwise ltDot ∧ l.length ≤ 1000) fun _ => .bl true) := by
  refine T.d_is_rising (spF_len fun _ => rfl) fun X vs H Q E ⟨f, cdv, A, outer, s, e⟩ G ⟨l, r, ⟨hu, hl⟩, q⟩ => ?_
  subst e
  have E := env_r (N := N_is_rising) r
  refine s_ret E (ER.is (d' := .bl true) (er_all G.calm T.n_all (bs := (l.zip (l.drop 1)).map fun x => decide (ltDot x.1 x.2)) (.imp (ed_lc (L := l.zip (l.drop 1)) (enc := fun x : Dot × Dot => .tup [dDot x.1, dDot x.2]) (fun _ => true) (fun x => .bl (decide (ltDot x.1 x.2))) G [("one", 1), ("other", 2)] (.is (srcT_zipT T.n_zip (er_var 0 rfl) (er_slt (er_var 0 rfl) (od_some er_int) od_none)).src ?_) (blkOk_by (N := N_is_rising) (sc := defScope s_is_rising) (by decide +kernel)) (by rw [List.length_zip]; omega) (fun s H0 C cl fp x hx => tg_tup2 1 2 G.nd G.calm)
    (fun s H0 C cl fp x hx => ts_nil) fun s H0 C cl fp x hx _ => er_ltDot G.bk (er_var 1 rfl) (er_var 2 rfl)) fun H v h => ?_)) ?_) fun v H' s r => q v H' s r
  · rw [cutD_map, show (1 : Int) = ((1 : Nat) : Int) from rfl, cutG_from, zipD_map]
  · rw [filter_tt] at h
    rw [List.map_map]; exact h
  · congr 1
    rw [List.all_map]
    exact zip_up hu
theorem ok_risingI (T : Tx K mg) : DefOk P w K mg base 1 "is_rising" (fun vs H Q _ => ∃ (a : Addr) (l : List Int), vs = [.ref a] ∧ LstAt H a (l.map .int) ∧ l.Pairwise (· < ·) ∧ l.length ≤ 1000 ∧ ∀ H', Same H H' → Q (.bl true) H') := by
  refine T.d_is_rising (fun vs H Q E ⟨a, l, ev, _⟩ => by subst ev; rfl) fun X vs H Q E ⟨f, cdv, A, outer, s, e⟩ G ⟨a, l, ev, ha, hu, hl, q⟩ => ?_
  subst e ev
  have E := env_p (N := N_is_rising) (Ps' := [rf a]) (vs := [.ref a]) (H := H) (.cons rfl .nil)
  refine s_ret E (ER.is (d' := .bl true) (er_all G.calm T.n_all (bs := (l.zip (l.drop 1)).map fun x => decide (x.1 < x.2)) (.imp (ed_lc (L := l.zip (l.drop 1)) (enc := fun x : Int × Int => .tup [.int x.1, .int x.2]) (fun _ => true) (fun x => .bl (decide (x.1 < x.2))) G [("one", 1), ("other", 2)] (.is (src_zipL T.n_zip (ed_here ha (ed_var 0 rfl)) (el_slice (ed_here ha (ed_var 0 rfl)) (od_some er_int) od_none)) ?_) (blkOk_by (N := N_is_rising) (sc := defScope s_is_rising) (by decide +kernel)) (by rw [List.length_zip]; omega) (fun s H0 C cl fp x hx => tg_tup2 1 2 G.nd G.calm)
    (fun s H0 C cl fp x hx => ts_nil) fun s H0 C cl fp x hx _ => er_lt (er_var 1 rfl) (er_var 2 rfl)) fun H v h => ?_)) ?_) fun v H' s r => by cases r; exact q H' s
  · rw [cutD_map, show (1 : Int) = ((1 : Nat) : Int) from rfl, cutG_from, zipD_map]
  · rw [filter_tt] at h
    rw [List.map_map]; exact h
  · congr 1
    rw [List.all_map]
    exact zip_upI hu
end
end K31
namespace K31
open L2 PySem PySem.Spec PyProof.Rows
theorem str_111 : ("o" : Str) = ⟨#[111]⟩ := by decide +kernel
theorem str_46 : ("." : Str) = ⟨#[46]⟩ := by decide +kernel
section
variable {P : Program} {w : World}
variable {K : PySem.W.Frag} {mg : Str → Option Value} {base : Heap}
theorem ok_is_row (T : Tx K mg) : DefOk P w K mg base 1 "is_row" (spF (fun r : List Bool => [.str (mkRow r), .int r.length]) (fun r => true ∈ r ∧ r.length ≤ 1000) fun _ => .bl true) := by
  refine T.d_is_row (spF_len fun _ => rfl) fun X vs H Q E ⟨f, cdv, A, outer, s, e⟩ G ⟨rw_, r, ⟨ht, hl⟩, q⟩ => ?_
  subst e
  have E := env_r (N := N_is_row) r
  have hz : (mkRow rw_).length ≤ sizeLine := by rw [mkRow_len]; exact Nat.le_trans hl (by decide)
  have hin : (111 : Nat) ∈ rw_.map (fun b => if b = true then 111 else 46) := List.mem_map.mpr ⟨true, ht, rfl⟩
  refine s_skip E (.is (td_or3 (td_not (td_val (er_isi T.n_isinstance rfl k_str_str (er_var 0 rfl) (ed_bty T.n_str (by decide +kernel))))) (fun _ => td_neI (er_lenS T.n_len hz (er_var 0 rfl)) (er_var 1 rfl)) (fun _ _ => td_ninStr (.is (er_gstr (by rfl) T.c_DOT) (by rw [str_111])) (.is (er_var 0 rfl) rfl))) ?_) fun H1 s1 E1 => ?_
  · rw [mkRow_len, decide_eq_true hin]; simp
  · refine s_ret E1 (ER.is (d' := .bl true) (er_all G.calm T.n_all (bs := (rw_.map fun b => if b = true then 111 else 46).map fun c : Nat => decide ((⟨#[c]⟩ : Str) ∈ [("o" : Str), "."])) (.imp (ed_lc (L := rw_.map fun b => if b = true then 111 else 46) (enc := fun c : Nat => .str ⟨#[c]⟩) (fun _ => true) (fun c : Nat => .bl (decide ((⟨#[c]⟩ : Str) ∈ [("o" : Str), "."]))) G [("sign", 2)] (.is (src_str (s := mkRow rw_) (er_var 0 rfl)) (by simp [mkRow])) (blkOk_by (N := N_is_row) (sc := defScope s_is_row) (by decide +kernel)) (by rw [List.length_map]; omega) (fun s H0 C cl fp x hx => tg_name 2 G.nd)
      (fun s H0 C cl fp x hx => ts_nil) fun s H0 C cl fp x hx _ => er_inS (er_var 2 rfl) (er_t2 (er_gstr (by rfl) T.c_DOT) (er_gstr (by rfl) T.c_GAP))) fun H v h => ?_)) ?_) fun v H' s r => q v H' (s1.trans s) r
    · rw [filter_tt] at h
      rw [List.map_map]; exact h
    · congr 1
      rw [List.all_map, List.all_eq_true]
      intro c hc
      obtain ⟨b, _, rfl⟩ := List.mem_map.mp hc
      show decide _ = true
      rw [decide_eq_true_eq, str_111, str_46]
      cases b <;> simp
theorem ok_left_end (T : Tx K mg) : DefOk P w K mg base 1 "left_end" (spF (fun e : Edge => [dEdge e]) (fun e => e ≠ (none, none)) fun e => dWire (leftE e)) := by
  refine T.d_left_end (spF_len fun _ => rfl) fun X vs H Q E ⟨f, cdv, A, outer, s, e⟩ G ⟨ed, r, hne, q⟩ => ?_
  subst e
  have E := env_r (N := N_left_end) r
  obtain ⟨a, b⟩ := ed
  refine s_ret E (P := fun H v => Rep H (dWire (leftE (a, b))) v) (ed_if (td_isN (d := dOpt a) (by cases a <;> rfl) (er_ixt (er_var 0 rfl) er_int rfl)) (fun hk => ?_) fun hk => ?_) fun v H' s r => q v H' s r
  · cases a with
    | some a => cases hk
    | none =>
      cases b with
      | none => exact absurd rfl hne
      | some b => exact er_t2 (er_gstr (by rfl) T.c_LONE) (er_ixt (d := .int b) (er_var 0 rfl) er_int rfl)
  · cases a with
    | none => cases hk
    | some a => exact er_t2 (er_gstr (by rfl) T.c_ROW) (er_ixt (d := .int a) (er_var 0 rfl) er_int rfl)
theorem ok_right_end (T : Tx K mg) : DefOk P w K mg base 1 "right_end" (spF (fun e : Edge => [dEdge e]) (fun e => e ≠ (none, none)) fun e => dWire (rightE e)) := by
  refine T.d_right_end (spF_len fun _ => rfl) fun X vs H Q E ⟨f, cdv, A, outer, s, e⟩ G ⟨ed, r, hne, q⟩ => ?_
  subst e
  have E := env_r (N := N_right_end) r
  obtain ⟨a, b⟩ := ed
  refine s_ret E (P := fun H v => Rep H (dWire (rightE (a, b))) v) (ed_if (td_isN (d := dOpt b) (by cases b <;> rfl) (er_ixt (er_var 0 rfl) er_int rfl)) (fun hk => ?_) fun hk => ?_) fun v H' s r => q v H' s r
  · cases b with
    | some b => cases hk
    | none =>
      cases a with
      | none => exact absurd rfl hne
      | some a => exact er_t2 (er_gstr (by rfl) T.c_LONE) (er_ixt (d := .int a) (er_var 0 rfl) er_int rfl)
  · cases b with
    | none => cases hk
    | some b => exact er_t2 (er_gstr (by rfl) T.c_COLUMN) (er_ixt (d := .int b) (er_var 0 rfl) er_int rfl)
theorem ok_is_barred (T : Tx K mg) : DefOk P w K mg base 1 "is_barred" (fun vs H Q _ => ∃ (a : Addr) (es : List Edge), vs = [.ref a] ∧ LstAt H a (es.map dEdge) ∧ ∀ H', Same H H' → Q (.bl (decide ((none, none) ∈ es))) H') := by
  refine T.d_is_barred (fun vs H Q E ⟨a, l, ev, _⟩ => by subst ev; rfl) fun X vs H Q E ⟨f, cdv, A, outer, s, e⟩ G ⟨a, es, ev, ha, q⟩ => ?_
  subst e ev
  have E := env_p (N := N_is_barred) (Ps' := [rf a]) (vs := [.ref a]) (H := H) (.cons rfl .nil)
  refine s_ret E (P := fun H v => Rep H (.bl (decide ((none, none) ∈ es))) v) (er_cmp (op_inD G.hu65) rfl stb_R (er_t2 er_non er_non) (ed_here ha (ed_var 0 rfl)) fun x y H p1 p2 Q q => ⟨_, _, enc_edge.dp (x := (none, none)) p1, enc_edge.dpL p2, enc_edge.sh (by decide) _, enc_edge.shL (by decide) es, by rw [enc_edge.any]; exact q⟩) fun v H' s r => by cases r; exact q H' s
theorem ok_are_rows (T : Tx K mg) : DefOk P w K mg base 2 "are_rows" (spF (fun B : Boards => [dRows B]) GoodB fun _ => .bl true) := by
  refine T.d_are_rows (spF_len fun _ => rfl) fun X vs H Q E ⟨f, cdv, A, outer, s, e⟩ G ⟨B, r, hB, q⟩ => ?_
  subst e
  have E := env_r (N := N_are_rows) r
  obtain ⟨w', hw0, hw1, hw, hcol⟩ := hB.w
  obtain ⟨r0, B', rfl⟩ : ∃ r0 B', B = r0 :: B' := by
    cases B with
    | nil => exact absurd hB.h0 (by decide)
    | cons r0 B' => exact ⟨_, _, rfl⟩
  have hB0 := hB.h0
  have hB1 := hB.h1
  have hr0 : r0.length = w' := hw _ List.mem_cons_self
  have dlen : ((r0 :: B').map fun r => D.str (mkRow r)).length = (r0 :: B').length := List.length_map ..
  have hz : (mkRow r0).length ≤ sizeLine := by rw [mkRow_len, hr0]; exact Nat.le_trans hw1 (by decide)
  refine s_skip E (.is (td_or (td_not (td_val (er_call (ok_is_tuple T) (G.mono (by decide)) (((r0 :: B').map fun r => D.str (mkRow r)), 10) trivial (ad_cons (er_var 0 rfl) (ad_one (er_gint (by rfl) T.c_MOST_ROWS)))))) fun _ => td_not (td_val (er_isi (d := .str (mkRow r0)) T.n_isinstance rfl k_str_str (er_ixt (er_var 0 rfl) er_int (atI_nat (j := 0) rfl)) (ed_bty T.n_str (by decide +kernel))))) ?_) fun H1 s1 E1 => ?_
  · dsimp only
    rw [dlen]
    have h1 : (1 : Int) ≤ ((r0 :: B').length : Nat) := by omega
    have h2 : (((r0 :: B').length : Nat) : Int) ≤ 10 := by omega
    rw [decide_eq_true h1, decide_eq_true h2]; rfl
  · refine s_set 1 (d := .int w') G E1 (.is (er_lenS T.n_len hz (er_ixt (er_var 0 rfl) er_int (atI_nat (j := 0) rfl))) (by rw [mkRow_len, hr0])) fun σ2 H2 s2 E2 => ?_
    refine s_skip E2 (.is (td_or (td_not (td_chain er_int (er_var 1 rfl) (er_gint (by rfl) T.c_MOST_COLUMNS))) fun _ => td_not (td_val (er_all G.calm T.n_all (bs := (r0 :: B').map fun _ => true) (.imp (ed_lc (L := r0 :: B') (enc := fun r => .str (mkRow r)) (fun _ => true) (fun _ => .bl true) G [("row", 2)] (src_tup (er_var 0 rfl)) (blkOk_by (N := N_are_rows) (sc := defScope s_are_rows) (by decide +kernel)) (by omega) (fun s H0 C cl fp x hx => tg_name 2 G.nd)
      (fun s H0 C cl fp x hx => ts_nil) fun s H0 C cl fp x hx _ => er_call (ok_is_row T) G.bk x ⟨hB.row x hx, by have := hw x hx; omega⟩ (ad_cons (er_var 2 rfl) (ad_one (.is (er_var 1 rfl) (by rw [hw x hx]))))) fun H v h => ?_)))) ?_) fun H3 s3 E3 => ?_
    · rw [filter_tt] at h
      rw [List.map_map]; exact h
    · rw [decide_eq_true (by omega : (1 : Int) ≤ (w' : Nat)), decide_eq_true (by omega : ((w' : Nat) : Int) ≤ 10)]
      rw [List.all_map]
      simp
    · refine s_ret E3 (ER.is (d' := .bl true) (er_all G.calm T.n_all (bs := (List.range w').map fun j => decide (("o" : Str) ∈ (r0 :: B').map fun r => (⟨#[if r.getD j false then 111 else 46]⟩ : Str))) (.imp (ed_lc (L := List.range w') (enc := fun j : Nat => D.int j) (fun _ => true) (fun j => .bl (decide (("o" : Str) ∈ (r0 :: B').map fun r => (⟨#[if r.getD j false then 111 else 46]⟩ : Str)))) G [("column", 3)] (.is (src_range T.n_range ⟨by omega, by omega⟩ (er_var 1 rfl)) (by rw [Int.toNat_natCast])) (blkOk_by (N := N_are_rows) (sc := defScope s_are_rows) (by decide +kernel)) (by rw [List.length_range]; omega) (fun s H0 C cl fp x hx => tg_name 3 G.nd)
        (fun s H0 C cl fp x hx => ts_nil) fun s H0 C cl fp j hj _ => er_inSL (er_gstr (by rfl) T.c_DOT) (.imp (ed_lc (L := r0 :: B') (enc := fun r => .str (mkRow r)) (fun _ => true) (fun r => .str ⟨#[if r.getD j false then 111 else 46]⟩) G.bk [("row", 2)] (src_tup (er_var 0 rfl)) (blkOk_by (N := N_are_rows) (sc := { kind := .function, names := [(".0", .local), ("column", .cell), ("DOT", .globalImplicit), ("value", .cell)], isGenerator := false, isCoroutine := false }) (by decide +kernel)) (by omega) (fun s H0 C cl fp x hx => tg_name 2 G.nd)
          (fun s H0 C cl fp x hx => ts_nil) fun s H0 C cl fp x hx _ => er_ixs (er_var 2 rfl) (er_var 3 rfl) (by rw [mkRow_len, hw x hx]; exact Nat.le_trans hw1 (by decide)) (mkRow_at (by rw [hw x hx]; exact List.mem_range.mp hj))) fun H v h => ?_)) fun H v h => ?_)) ?_) fun v H' s r => q v H' ((s1.trans s2).trans (s3.trans s)) r
      · rw [filter_tt] at h
        rw [List.map_map]; exact h
      · rw [filter_tt] at h
        rw [List.map_map]; exact h
      · congr 1
        rw [List.all_map, List.all_eq_true]
        intro j hj
        show decide _ = true
        rw [decide_eq_true_eq]
        obtain ⟨r, hr, ht⟩ := hcol j (List.mem_range.mp hj)
        refine List.mem_map.mpr ⟨r, hr, ?_⟩
        rw [ht, str_111]; rfl
end
end K31
namespace K31
open L2 PySem PySem.Spec PyProof.Rows
section
variable {X : Cx}
/-- one more entry of a dict under a tuple, within a comprehension -/
theorem put_inDT {pins : List (Addr × Obj)} {σ : L2.St} {H : Hp} {z : Shared} {E : Value → Shared → Prop} {d b : Addr} {kvs : List (List Key × V)} {ks : List Key} {x : V} {ux : Value} {Q : Unit → Shared → Prop} (hu : X.A.units + 1 < cLine) (I : Inv X pins σ H z) (hd : H d = some (.dT kvs)) (hz : kvs.length < sizeLine)
    (hb : H b = some (.tup (ks.map kV))) (rx : RelV x ux) (q : ∀ y, Inv X pins σ (upd H d (.dT (putK kvs ks x))) y → Q () y) : wpAny (model X.prog X.w) X.A (dictSet d (.ref b) ux) Q E z := by
  obtain ⟨n1, n2, es, rel, dd⟩ := dt_of I.hok hd
  have n3 := length_putK kvs ks x
  refine wpAny_dictSet_heap (hsz := by rw [← Paired.length rel]; exact n1) (Nat.lt_of_succ_lt hu) (key_of I.hok hb) dd fun h' dd' sb => q _ ?_
  obtain ⟨o, a1, a2, a3, a4, a5, a6, _, a7⟩ := dd'
  refine d_write I (by rw [hd]; exact True.intro) sb ⟨o, a3⟩ ⟨by omega, n2, _, (rel.put ks hb rx).keeps fun c ys ec => ?_, o, a1, a2, a3, a4, a5, a6, a7⟩
  rw [upd_ne (ne_of ec hd (fun t => nomatch t))]
  exact ec
/-- {k: v for tg in it}, keys tuples: d the new dict -/
def tDcT (wi : TI) (g : TG) (tk tv : TE) (vs : List Nat) : TE := fun σ H Q => wi σ H fun J H1 => ∀ d, H1 d = none → ∃ W : Nat → Nat → Hp → Prop, (∃ m, W 0 m (upd H1 d (.dT []))) ∧ ∀ i m H, W i m H →
  (J.stop i H ∧ Q (.ref d) H) ∨ (J.go i H ∧ ∃ Nx : Hp → Prop, (∀ H', Nx H' → ∃ m', m' < m ∧ W (i + 1) m' H') ∧ ∀ x H', J.yld i H x H' → g x (wipe σ vs) H' fun σ2 H2 => wipe σ2 vs = wipe σ vs ∧
    tk σ2 H2 fun y H4 => tv σ2 H4 fun z H5 => ∃ kvs ks b, y = .ref b ∧ H5 b = some (.tup (ks.map kV)) ∧ H5 d = some (.dT kvs) ∧ kvs.length < sizeLine ∧ Nx (upd H5 d (.dT (putK kvs ks z))))
theorem pe_dcT {kx vx tg it : Expr} {scope : Scope} {own : List (Str × Nat)} {pos : Pos} {wi : TI} {g : TG} {tk tv : TE} (hc : X.calm = true) (hu : X.A.units + 1 < cLine) (hN : X.N.Nodup) (hi : PI X tg it wi) (ok : BlkOk X.N X.env.scope scope own)
    (hg : ∀ s H C cl fp, PG (Cx.bk X s H scope C cl fp) tg g) (hk : ∀ s H C cl fp, PE (Cx.bk X s H scope C cl fp) kx tk) (he : ∀ s H C cl fp, PE (Cx.bk X s H scope C cl fp) vx tv) (hs : ∀ x, foldedSetIterable it X.env x = pure x := by intro _; rfl) :
    PE X (.DictComp kx vx [⟨tg, it, [], 0⟩] scope pos) (tDcT wi g tk tv (own.map (·.2))) := by
  refine ⟨fun pins z σ H Q I h => ?_⟩
  rw [arm_eval_DictComp]
  have fr : ∀ y ∈ scope.names, y.2 = .free → ∃ c, X.env.cells.lookup y.1 = some c := fun y hy e => (ok.free y hy e).elim (fun k => I.ok.has _ (.inl k)) fun k => I.ok.has _ (.inr k)
  refine wpAny_comprehension_free (use := none) rfl hs (closure_ok fr) ok.kind (fun y hy e => by rw [ok.uniq y hy, e]) (thn (hi.run pins z σ H _ I h) fun xv z1 hx => thn hx fun itv z2 hz2 => ?_)
  obtain ⟨it0, fp, tn, J, G2, rfl, I2, T, st2, f2, q⟩ := hz2
  refine wpAny_newObj_type (newEnv_comp ?_); generalize hd : z2.heap.objs.size = d
  have dn : G2 d = none := I2.hok.fresh (Nat.le_of_eq hd)
  obtain ⟨W, ⟨m0, w0⟩, turn⟩ := q d dn
  generalize hz3 : ({ z2 with heap := z2.heap.push { cls := .type "dict", data := .dict #[] } } : Shared) = z3
  have I3 : Inv X pins σ (upd G2 d (.dT [])) z3 := by
    rw [← hz3]
    refine I2.laid (t' := z2.toks) (fun _ _ e => Heap.get?_push_of_some _ e) (Nat.le_of_eq hd) ?_
    rw [← hd]; exact dt_empty z2.heap I2.big
  have hp3 : z3.heap = z2.heap.push { cls := .type "dict", data := .dict #[] } := by rw [← hz3]
  have f3 : ∀ b ∈ fp, FpOk X pins (upd G2 d (.dT [])) b ∧ b < z3.heap.objs.size := fun b hb => by
    obtain ⟨o, e, _⟩ := T.obj _ _ st2 b hb; have lt := Heap.lt_size e
    refine ⟨⟨?_, (f2 b hb).2⟩, by rw [hp3, Heap.size_push]; exact Nat.lt_succ_of_lt lt⟩
    rw [upd_ne (by rw [← hd]; exact Nat.ne_of_lt lt)]; exact (f2 b hb).1
  have st3 : tn 0 z3.heap := T.keep _ _ _ st2 fun b _ o e => by rw [hp3]; exact Heap.get?_push_of_some _ e
  have I4 := block_start I3 ok hN f3; show codeAny _ _ (.compStart (.DictComp kx vx [⟨tg, it, [], 0⟩] scope pos) 0 (.ref it0) (.ref d) (compEnvC scope (cellsFrom (z3.heap.objs.size + 1) scope.names (cloFrom X.env.cells scope.names [])) z3.heap.objs.size X.env)) (compPost (model X.prog X.w) X.A X.xe none (EP X pins σ Q) (.ref d) z3.heap.objs.size) { z3 with heap := pushCells (z3.heap.push { cls := .type "dict", data := .dict #[] }) scope.names }
  generalize hcl : cellsFrom (z3.heap.objs.size + 1) scope.names (cloFrom X.env.cells scope.names []) = cl at I4 ⊢
  generalize hG3 : upd G2 d (.dT []) = G3 at I3 I4 w0 f3
  have pg := hg z3 G3 z3.heap.objs.size cl fp
  have pk := hk z3 G3 z3.heap.objs.size cl fp
  have pv := he z3 G3 z3.heap.objs.size cl fp
  unfold Cx.bk at pg pk pv
  have nfp : ∀ b ∈ fp, G3 b = none := fun b hb => (f3 b hb).1.1
  generalize hce : compEnvC scope cl z3.heap.objs.size X.env = ce at I4 pg pk pv ⊢
  have cL : ce.locals = z3.heap.objs.size := by subst hce; rfl
  generalize hz4 : ({ z3 with heap := pushCells (z3.heap.push { cls := .type "dict", data := .dict #[] }) scope.names } : Shared) = z4 at I4 ⊢
  have st4 : tn 0 z4.heap := T.keep _ _ _ st3 fun b _ o e => by rw [← hz4]; exact pushCells_keeps _ _ _ _ (Heap.get?_push_of_some _ e)
  have stat : ∀ {τ : L2.St} {G : Hp} {y : Shared}, Inv (X.blk z3 G3 scope ce fp) [] τ G y → (∀ b ∈ fp, G b = none) → ∀ b ∈ fp, FpOk (X.blk z3 G3 scope ce fp) [] G b := fun {τ G y} I' hn b hb => ⟨hn b hb, (I'.ok.exf b hb).1, I'.ok.exfs b hb, .inl hb, fun x c e => (I'.ok.exf b hb).2 x c e, fun p hp => absurd (show p ∈ ([] : List (Addr × Obj)) ++ [] from hp) (by simp)⟩
  have loop : codeAny (model X.prog X.w) X.A (.compLoop (.DictComp kx vx [⟨tg, it, [], 0⟩] scope pos) 0 (.ref it0) (.ref d) ce) (compPost (model X.prog X.w) X.A X.xe none (EP X pins σ Q) (.ref d) z3.heap.objs.size) z4 := by
    refine compLoop_anyD (fun n y => ∃ i G, Inv (X.blk z3 G3 scope ce fp) [] (wipe σ (own.map (·.2))) G y ∧ tn i y.heap ∧ (∀ b ∈ fp, G b = none) ∧ W i n G) ?_ m0 ⟨0, G3, I4, st4, nfp, w0⟩
    rintro n z5 ⟨i, G5, I5, st5, n5, w5⟩
    rcases turn i n G5 w5 with ⟨stop, qq⟩ | ⟨go, Nx, hNx, step⟩
    · refine thnF (T.done (X.blk z3 G3 scope ce fp) rfl rfl rfl hc i [] z5 _ G5 (fun _ _ => False) I5 (stat I5 n5) st5 stop) fun r z6 ⟨hr, I6⟩ => ?_
      subst hr
      have I7 : Inv X pins σ G5 z6 := I3.call' (ch := fp) I6.os I6.base I6.hok I6.bare fun b hb => ⟨(f3 b hb).1.2.2.2.1, (f3 b hb).1.2.1, (f3 b hb).1.2.2.2.2.1, (f3 b hb).1.2.2.2.2.2⟩
      have nC : G5 z3.heap.objs.size = none := cL ▸ (show G5 ce.locals = none from I6.free)
      obtain ⟨m, hn, _⟩ := I6.loc
      have hn' : z6.heap.Ns z3.heap.objs.size m := cL ▸ (show z6.heap.Ns ce.locals m from hn)
      have fk := I3.fpOk (Nat.le_refl _) nC
      refine ⟨m, hn', fun h'' sb => ?_⟩
      exact ⟨.ref d, G5, I7.turned (t' := z6.toks) (fun b o hb e => (sb.2 b hb).trans e) fk.1 fk.2.1 fk.2.2.2.1 fk.2.2.2.2.1 fk.2.2.2.2.2, rfl, qq⟩
    · refine thnF (T.item (X.blk z3 G3 scope ce fp) rfl rfl rfl hc i [] z5 _ G5 (fun _ _ => False) I5 (stat I5 n5) st5 go) fun r z6 ⟨u, hr, h6⟩ => ?_
      subst hr
      refine thnF h6 fun _ z7 ⟨x, G7, I7, r7, y7, st7, n7⟩ => ?_
      refine thnF (pg.run _ z7 _ G7 x u _ (I7.pinned (stat I7 n7) (T.obj _ _ st7)) r7 (step x G7 y7)) fun _ z8 ⟨τ8, G8, I8, hw8, q8⟩ => ?_
      refine thnF ((pts_nil (X := X.blk z3 G3 scope ce fp)).run _ z8 τ8 G8 (fun b G => b = true ∧ G = G8) I8 ⟨rfl, rfl⟩) fun b z9 ⟨G9, I9, eb, eG⟩ => ?_
      subst eb eG
      rw [if_pos rfl]
      refine thnF (pk.run _ z9 τ8 G9 _ I9 q8) fun v1 z10 ⟨x1, G10, I10, r10, q10⟩ => ?_
      refine thnF (pv.run _ z10 τ8 G10 _ I10 q10) fun v2 z11 ⟨x2, G11, I11, r11, kvs, ks, b, ek, hb, hd11, hz11, nx⟩ => ?_
      subst ek
      cases r10
      refine put_inDT (X := X.blk z3 G3 scope ce fp) hu I11 hd11 hz11 hb r11 fun z12 I12 => ?_
      obtain ⟨m', hm, w'⟩ := hNx _ nx
      have pin' : ∀ b ∈ fp, ∀ o, z7.heap.get? b = some o → z12.heap.get? b = some o ∧ (upd G11 d (.dT (putK kvs ks x2))) b = none := fun b hb o e =>
        have z := I12.pin (b, o) (List.mem_append_right _ (List.mem_append_right _ (mem_pinsAt hb e)))
        ⟨z.1, z.2.1⟩
      have hl : (wipe σ (own.map (·.2))).length = τ8.length := by rw [← hw8, wipe_length]
      refine ⟨m', hm, i + 1, _, (I12.unpinned (pins := [])).weak hl (fun j v e => ?_), T.keep _ _ _ st7 fun b hb o e => (pin' b hb o e).1, fun b hb => ?_, w'⟩
      · rw [← hw8] at e
        exact (wipe_some e).1
      · obtain ⟨o, e, _⟩ := T.obj _ _ st7 b hb; exact (pin' b hb o e).2
  exact (codeAny_compStart_dict loop (T.self X.A 0 _ _ _ st4 loop))
end
end K31
namespace K31
open L2 PySem PySem.Spec PyProof.Rows
def AllI (X : Cx) (scope : Scope) (tg it : Expr) : TI := fun σ H R => ∀ s H0 C cl fp, WI (Cx.bk X s H0 scope C cl fp) tg it σ H R
section
variable {X : Cx} {Hz : Hp} {ρ : Rho} {tg it tg1 it1 elt : Expr} {ifs1 : List Expr} {scope : Scope} {pos : Pos} {k : Nat} {α β : Type}
/-- [elt for tg in it for tg1 in it1 if ..], nothing changed -/
theorem ed_lc2 {L : List α} {enc : α → D} {M : α → List β} {enc1 : α → β → D} (b : α → β → Bool) (g : α → β → D) {ρ1 : α → Rho} {ρ2 : α → β → Rho} (G : GX X k) (own : List (Str × Nat)) (vs1 : List Nat) (hv : ∀ i ∈ vs1, i ∈ own.map (·.2)) (hi : Src X Hz ρ tg it (L.map enc)) (ok : BlkOk X.N X.env.scope scope own) (hl : L.length ≤ 200) (hm : ∀ x ∈ L, (M x).length ≤ 200)
    (ht : ∀ s H0 C cl fp, ∀ x ∈ L, TgD (Cx.bk X s H0 scope C cl fp) (wipeR ρ (own.map (·.2))) (ρ1 x) tg (own.map (·.2)) (enc x))
    (hi1 : ∀ s H0 C cl fp, ∀ x ∈ L, SrcT (Cx.bk X s H0 scope C cl fp) Hz (ρ1 x) tg1 it1 ((M x).map (enc1 x)))
    (ht1 : ∀ s H0 C cl fp, ∀ x ∈ L, ∀ y ∈ M x, TgD (Cx.bk X s H0 scope C cl fp) (wipeR (ρ1 x) vs1) (ρ2 x y) tg1 vs1 (enc1 x y))
    (hc : ∀ s H0 C cl fp, ∀ x ∈ L, ∀ y ∈ M x, TsD (Cx.bk X s H0 scope C cl fp) Hz (ρ2 x y) ifs1 (b x y))
    (he : ∀ s H0 C cl fp, ∀ x ∈ L, ∀ y ∈ M x, b x y = true → ER (Cx.bk X s H0 scope C cl fp) Hz (ρ2 x y) elt (g x y)) (hs : ∀ x, foldedSetIterable it X.env x = pure x := by intro _; rfl) (hs1 : ∀ env x, foldedSetIterable it1 env x = pure x := by intro _ _; rfl) :
    ED X Hz ρ (.ListComp elt [⟨tg, it, [], 0⟩, ⟨tg1, it1, ifs1, 0⟩] scope pos) (Lst (L.flatMap fun x => ((M x).filter (b x)).map (g x))) := by
  refine .by (pe_lc2 (own := own) (vs1 := vs1) (g := AllG X scope tg) (tt := fun _ H Q => Q true H) (wi1 := AllI X scope tg1 it1) (g1 := AllG X scope tg1) (tt1 := AllT X scope ifs1) (te := AllE X scope elt) G.calm G.nd pi_W ok hv (fun s H C cl fp => ⟨fun pins s' σ H' v u Q I r h => h s H C cl fp pins s' u I r⟩) (fun s H C cl fp => pts_nil)
    (fun s H C cl fp => ⟨fun pins s' σ H' R I h => h s H C cl fp pins s' I⟩) (fun s H C cl fp => ⟨fun pins s' σ H' v u Q I r h => h s H C cl fp pins s' u I r⟩) (fun s H C cl fp => ⟨fun pins s' σ H' Q I h => h s H C cl fp pins s' I⟩) (fun s H C cl fp => ⟨fun pins s' σ H' Q I h => h s H C cl fp pins s' I⟩) hs hs1) fun σ H Q E q => ?_
  refine hi.run σ H _ E fun J H1 Gd s1 g1 gs wk d hd => ?_
  rw [List.length_map] at wk
  let out : List α → List D := fun l => l.flatMap fun x => ((M x).filter (b x)).map (g x)
  have hout : ∀ l : List α, (∀ x ∈ l, x ∈ L) → (out l).length ≤ 200 * l.length := by
    intro l
    induction l with
    | nil => intro _; exact Nat.zero_le _
    | cons x l ih =>
      intro h
      have h1 := ih fun y hy => h y (List.mem_cons_of_mem _ hy)
      have h2 := hm x (h x List.mem_cons_self)
      have h3 := List.length_filter_le (b x) (M x)
      show (List.flatMap _ (x :: l)).length ≤ _
      rw [List.flatMap_cons, List.length_append, List.length_map, List.length_cons]
      have : (out l).length = (l.flatMap fun x => ((M x).filter (b x)).map (g x)).length := rfl
      omega
  refine ⟨fun i m H' => m = L.length - i ∧ i ≤ L.length ∧ Same H1 H' ∧ ∃ acc, H' d = some (.lst acc) ∧ RepL H' (out (L.take i)) acc, ⟨L.length, by simp, Nat.zero_le _, same_upd hd, [], upd_same, .nil⟩, ?_⟩
  rintro i m H' ⟨rfl, hi', sa, acc, hacc, racc⟩
  have gH := gs _ _ sa g1
  by_cases hlt : i < L.length
  · refine .inr ⟨wk.goes i H' hlt gH, fun H'' => L.length - (i + 1) = L.length - (i + 1) ∧ i + 1 ≤ L.length ∧ Same H1 H'' ∧ ∃ acc, H'' d = some (.lst acc) ∧ RepL H'' (out (L.take (i + 1))) acc, fun H'' p => ⟨L.length - (i + 1), by omega, p⟩, fun v H2 y => ?_⟩
    obtain ⟨sab, dd, hdd, rd⟩ := wk.yields i H' v H2 hlt gH y
    obtain ⟨x, hx, rfl⟩ := get_map hdd
    have hxm := List.mem_of_getElem? hx
    have rv := rd sa
    have E2 : En Hz ρ σ H2 := E.same ((s1.trans sa).trans sab)
    intro s0 H0 C cl fp
    refine (ht s0 H0 C cl fp x hxm).run σ H2 v _ (E2.env.wipe _) rv fun σ2 Ex w2 => ⟨w2, ?_⟩
    refine iteT ?_
    intro s0' H0' C' cl' fp'
    refine (hi1 s0' H0' C' cl' fp' x hxm).run σ2 H2 _ ⟨E2.s0, Ex⟩ fun J1 H4 Gd1 s4 g4 gs4 wk1 => ?_
    rw [List.length_map] at wk1
    have s14 : Same H1 H4 := (sa.trans sab).trans s4
    have hacc4 : H4 d = some (.lst acc) := s4 _ _ (sab _ _ hacc)
    have htk : out (L.take (i + 1)) = out (L.take i) ++ ((M x).filter (b x)).map (g x) := by
      rw [take_snoc hx]
      show List.flatMap _ (L.take i ++ [x]) = _
      rw [List.flatMap_append, List.flatMap_singleton]
    have hoi := hout (L.take i) fun y hy => List.mem_of_mem_take hy
    have hti : (L.take i).length ≤ 200 := by rw [List.length_take]; omega
    refine ⟨fun j kk H' => kk = (M x).length - j ∧ j ≤ (M x).length ∧ Same H1 H' ∧ Le H4 H' ∧ ∃ acc', H' d = some (.lst acc') ∧ RepL H' (out (L.take i) ++ ((((M x).take j).filter (b x)).map (g x))) acc', ⟨(M x).length, by simp, Nat.zero_le _, s14, Le.refl _, acc, hacc4, ?_⟩, ?_⟩
    · rw [List.take_zero, List.filter_nil, List.map_nil, List.append_nil]
      exact racc.le (.of (sab.trans s4))
    · rintro j kk H' ⟨rfl, hj', sj, lj, acc', hacc', racc'⟩
      have gJ := gs4 _ _ lj g4
      by_cases hltj : j < (M x).length
      · refine .inr ⟨wk1.goes j H' hltj gJ, fun H'' => (M x).length - (j + 1) = (M x).length - (j + 1) ∧ j + 1 ≤ (M x).length ∧ Same H1 H'' ∧ Le H4 H'' ∧ ∃ acc', H'' d = some (.lst acc') ∧ RepL H'' (out (L.take i) ++ ((((M x).take (j + 1)).filter (b x)).map (g x))) acc', fun H'' p => ⟨(M x).length - (j + 1), by omega, p⟩, fun v5 H5 y5 => ?_⟩
        obtain ⟨sab5, dd5, hdd5, rd5⟩ := wk1.yields j H' v5 H5 hltj gJ y5
        obtain ⟨y, hy, rfl⟩ := get_map hdd5
        have hym := List.mem_of_getElem? hy
        have rv5 := rd5 lj
        have E5 : En Hz (ρ1 x) σ2 H5 := ⟨(E.s0.trans (s1.trans sj)).trans sab5, Ex.le ((Le.of s4).trans (lj.trans (.of sab5)))⟩
        intro s5 H05 C5 cl5 fp5
        refine (ht1 s5 H05 C5 cl5 fp5 x hxm y hym).run σ2 H5 v5 _ (E5.env.wipe _) rv5 fun σ3 Ey w3 => ⟨w3, ?_⟩
        intro s6 H06 C6 cl6 fp6 p6 s6' I6
        refine (hc s6 H06 C6 cl6 fp6 x hxm y hym).run p6 s6' σ3 H5 _ I6 ⟨E5.s0, Ey⟩ fun H6 s56 => ?_
        have hacc6 : H6 d = some (.lst acc') := s56 _ _ (sab5 _ _ hacc')
        have l46 : Le H4 H6 := (lj.trans (.of sab5)).trans (.of s56)
        have s16 : Same H1 H6 := (sj.trans sab5).trans s56
        have el := racc'.length
        have hfl := List.length_filter_le (b x) ((M x).take j)
        rw [List.length_append, List.length_map] at el
        have hmx := hm x hxm
        rw [List.length_take] at hfl
        have htk1 : (((M x).take (j + 1)).filter (b x)).map (g x) = ((((M x).take j).filter (b x)).map (g x)) ++ (([y].filter (b x)).map (g x)) := by
          rw [take_snoc hy, List.filter_append, List.map_append]
        by_cases hb : b x y = true
        · rw [hb]
          refine iteT ?_
          intro s7 H07 C7 cl7 fp7
          refine (he s7 H07 C7 cl7 fp7 x hxm y hym hb).run σ3 H6 _ ⟨E5.s0.trans s56, Ey.same s56⟩ fun w H7 s67 rw7 => ?_
          have hacc7 : H7 d = some (.lst acc') := s67 _ _ hacc6
          have lu : Le H7 (upd H7 d (.lst (acc' ++ [w]))) := Le.upd hacc7 rfl
          refine ⟨acc', hacc7, Nat.lt_of_lt_of_le (by omega : acc'.length < 100000) (by decide), rfl, hltj, ?_, (l46.trans (.of s67)).trans lu, acc' ++ [w], upd_same, ?_⟩
          · intro a o ha
            have hne : a ≠ d := by intro z; subst z; rw [hd] at ha; cases ha
            rw [upd_ne hne]
            exact (s16.trans s67) a o ha
          · rw [htk1, List.filter_cons_of_pos hb, List.filter_nil, List.map_singleton, ← List.append_assoc]
            exact ((racc'.le ((Le.of sab5).trans ((Le.of s56).trans (.of s67)))).append (.cons rw7 .nil)).le lu
        · rw [Bool.not_eq_true] at hb
          rw [hb]
          refine iteF ⟨rfl, hltj, s16, l46, acc', hacc6, ?_⟩
          rw [htk1, List.filter_cons_of_neg (by rw [hb]; decide), List.filter_nil, List.map_nil, List.append_nil]
          exact racc'.le ((Le.of sab5).trans (.of s56))
      · have e : j = (M x).length := by omega
        subst e
        rw [List.take_length, ← htk] at racc'
        exact .inl ⟨wk1.stops H' gJ, rfl, hlt, sj, acc', hacc', racc'⟩
  · have e : i = L.length := by omega
    subst e
    rw [List.take_length] at racc
    exact .inl ⟨wk.stops H' gH, q _ H' (s1.trans sa) ⟨d, acc, rfl, hacc, racc⟩⟩
end
end K31
namespace K31
open L2 PySem PySem.Spec PyProof.Rows
/-! ### the program's grow -/
def But2 (p q : Addr) (H H' : Hp) : Prop := ∀ a o, a ≠ p → a ≠ q → H a = some o → H' a = some o
theorem But2.of {p q : Addr} {H H' : Hp} (s : Same H H') : But2 p q H H' := fun a o _ _ h => s a o h
theorem But2.of1 {p q : Addr} {H H' : Hp} (s : SameBut p H H') : But2 p q H H' := fun a o n _ h => s a o n h
theorem But2.of2 {p q : Addr} {H H' : Hp} (s : SameBut q H H') : But2 p q H H' := fun a o _ n h => s a o n h
theorem But2.trans {p q : Addr} {H H1 H2 : Hp} (a : But2 p q H H1) (b : But2 p q H1 H2) : But2 p q H H2 := fun x o n m h => b x o n m (a x o n m h)
theorem But2.le {p q : Addr} {H H' : Hp} {u v : HO} (s : But2 p q H H') (h : H p = some u) (hi : Imm u = false) (h' : H q = some v) (hi' : Imm v = false) : Le H H' := fun a o ha hm => by
  by_cases e : a = p
  · subst e; rw [h] at ha; cases ha; rw [hi] at hm; cases hm
  by_cases e' : a = q
  · subst e'; rw [h'] at ha; cases ha; rw [hi'] at hm; cases hm
  exact s a o e e' ha
section
variable {κ : Type} [DecidableEq κ] {ke : κ → List Key} {kd : κ → D} {H H' : Hp} {p q : Addr} {m m' : List (κ × D)}
theorem But2.leT (s : But2 p q H H') (h1 : DictT ke H p m) (h2 : DictT ke H q m') : Le H H' := let ⟨_, e1, _⟩ := h1; let ⟨_, e2, _⟩ := h2; s.le e1 rfl e2 rfl
theorem DictT.but (h : DictT ke H p m) (h2 : DictT ke H q m') (s : SameBut q H H') (n : p ≠ q) : DictT ke H' p m := let ⟨vs, e, r⟩ := h; let ⟨_, e2, _⟩ := h2; ⟨vs, s _ _ n e, r.le (s.le e2 rfl)⟩
end
abbrev LT (ms : List (Wire × Wire)) : List (Wire × D) := ms.map fun x => (x.1, dWire x.2)
abbrev TT' (T : List Wire) : List (Wire × D) := T.map fun x => (x, .bl true)
theorem getM_TT {T : List Wire} {r : Wire} : (getM (TT' T) r).isSome = decide (r ∈ T) := by
  rw [← Bool.coe_iff_coe]
  rw [getM_isSome, List.map_map, decide_eq_true_eq]
  show r ∈ T.map id ↔ _
  rw [List.map_id]
theorem getM_LT {m : List (Wire × Wire)} {r : Wire} : getM (LT m) r = (getM m r).map dWire := by
  induction m with
  | nil => rfl
  | cons e m ih =>
    unfold getM at *
    show Option.map _ (List.find? _ ((e.1, dWire e.2) :: LT m)) = _
    rw [List.find?_cons, List.find?_cons]
    by_cases h : e.1 = r
    · simp [h]
    · simp only [decide_eq_false h]; exact ih
theorem putM_LT {m : List (Wire × Wire)} {r l : Wire} : putM (LT m) r (dWire l) = LT (putM m r l) := by
  unfold putM LT
  have : ((m.map fun x => (x.1, dWire x.2)).any fun e => decide (e.1 = r)) = m.any fun e => decide (e.1 = r) := by rw [List.any_map]; rfl
  rw [this]
  split
  · rw [List.map_map, List.map_map]
    refine List.map_congr_left fun e he => ?_
    show (if e.1 = r then (e.1, dWire l) else (e.1, dWire e.2)) = ((if e.1 = r then (e.1, l) else e).1, dWire (if e.1 = r then (e.1, l) else e).2)
    split <;> rfl
  · rw [List.map_append]; rfl
theorem putM_TT {T : List Wire} {r : Wire} (h : r ∉ T) : putM (TT' T) r (.bl true) = TT' (T ++ [r]) := by
  rw [putM_new _ (by rw [List.map_map]; show r ∉ T.map id; rw [List.map_id]; exact h)]
  show _ = List.map _ (T ++ [r])
  rw [List.map_append]; rfl
/-- the dict of the neighbours: its lists -/
structure NearT (H : Hp) (a : Addr) (mN : List (Wire × Addr)) (adj : Wire → List Wire) : Prop where
  d : DictR keWire H a (mN.map fun x => (x.1, .obj (rf x.2)))
  l : ∀ x ∈ mN, LstAt H x.2 ((adj x.1).map dWire)
theorem getM_near {mN : List (Wire × Addr)} {l : Wire} {a : Addr} (h : getM mN l = some a) : getM (mN.map fun x => (x.1, D.obj (rf x.2))) l = some (.obj (rf a)) := by
  induction mN with
  | nil => cases h
  | cons e m ih =>
    unfold getM at *
    rw [List.map_cons, List.find?_cons]
    rw [List.find?_cons] at h
    by_cases he : e.1 = l
    · simp only [he, decide_true] at h ⊢
      cases h; rfl
    · simp only [decide_eq_false he] at h ⊢
      exact ih h
theorem NearT.but {H H' : Hp} {near p q : Addr} {mN : List (Wire × Addr)} {adj : Wire → List Wire} {m m' : List (Wire × D)} (h : NearT H near mN adj) (s : But2 p q H H') (h1 : DictT keWire H p m) (h2 : DictT keWire H q m') (n1 : near ≠ p) (n2 : near ≠ q) : NearT H' near mN adj where
  d := let ⟨vs, e, r⟩ := h.d; ⟨vs, e.elim (fun e => .inl (s _ _ n1 n2 e)) (fun ⟨o, e⟩ => .inr ⟨o, s _ _ n1 n2 e⟩), r.le (s.leT h1 h2)⟩
  l x hx := by
    obtain ⟨vs, e, r⟩ := h.l x hx
    refine ⟨vs, s _ _ (fun z => ?_) (fun z => ?_) e, r.le (s.leT h1 h2)⟩
    · obtain ⟨_, e1, _⟩ := h1; rw [z, e1] at e; cases e
    · obtain ⟨_, e1, _⟩ := h2; rw [z, e1] at e; cases e
structure GrowOk (mN : List (Wire × Addr)) (adj : Wire → List Wire) (U : List Wire) (m : List (Wire × Wire)) (T : List Wire) (l : Wire) : Prop where
  l : ∃ a, getM mN l = some a
  u : ∀ x ∈ mN, ∀ r ∈ adj x.1, r ∈ U
  ul : U.length ≤ 1000
  k : (m.map Prod.fst).Nodup
  e : ∀ x ∈ m, x.1 ∈ adj x.2
  v : ∀ x ∈ m, ∃ a, getM mN x.2 = some a
  tn : T.Nodup
  tu : ∀ r ∈ T, r ∈ U
def GrowYes (adj : Wire → List Wire) (m : List (Wire × Wire)) (T : List Wire) (l : Wire) (m' : List (Wire × Wire)) : Prop :=
  (m'.map Prod.fst).Nodup ∧ (∀ x ∈ m', x.1 ∈ adj x.2) ∧ (m'.map Prod.snd).Perm (l :: m.map Prod.snd) ∧ ∀ r ∈ T, getM m' r = getM m r
def ClosedT (adj : Wire → List Wire) (m : List (Wire × Wire)) (T T' : List Wire) : Prop := ∀ r ∈ T', r ∉ T → ∃ x, getM m r = some x ∧ ∀ r' ∈ adj x, r' ∈ T'
def GrowNo (adj : Wire → List Wire) (U : List Wire) (m : List (Wire × Wire)) (T : List Wire) (l : Wire) (T' : List Wire) : Prop :=
  (∀ r ∈ T, r ∈ T') ∧ T'.Nodup ∧ (∀ r ∈ T', r ∈ U) ∧ (∀ r ∈ adj l, r ∈ T') ∧ ClosedT adj m T T'
abbrev left_ (U T : List Wire) : Nat := (U.filter fun u => !decide (u ∈ T)).length
def spGrow (n : Nat) : Sp := fun vs H Q _ => ∃ (near lefts tried : Addr) (vl : V) (mN : List (Wire × Addr)) (adj : Wire → List Wire) (U : List Wire) (m : List (Wire × Wire)) (T : List Wire) (l : Wire),
  vs = [.ref near, .ref lefts, vl, .ref tried] ∧ Rep H (dWire l) vl ∧ NearT H near mN adj ∧ DictT keWire H lefts (LT m) ∧ DictT keWire H tried (TT' T) ∧ near ≠ lefts ∧ near ≠ tried ∧ lefts ≠ tried ∧ GrowOk mN adj U m T l ∧ left_ U T ≤ n ∧
  ∀ (b : Bool) m' T' H', But2 lefts tried H H' → DictT keWire H' lefts (LT m') → DictT keWire H' tried (TT' T') → (b = true → GrowYes adj m T l m') → (b = false → m' = m ∧ GrowNo adj U m T l T') → Q (.bl b) H'
theorem left_add {U T : List Wire} {r : Wire} (hr : r ∈ U) (hn : r ∉ T) : left_ U (T ++ [r]) + 1 ≤ left_ U T := by
  have : ∀ U : List Wire, left_ U (T ++ [r]) ≤ left_ U T ∧ (r ∈ U → left_ U (T ++ [r]) + 1 ≤ left_ U T) := by
    intro U
    induction U with
    | nil => exact ⟨Nat.le_refl _, fun h => by cases h⟩
    | cons u U ih =>
      unfold left_ at *
      by_cases h1 : u ∈ T
      · rw [List.filter_cons_of_neg (by simp [h1]), List.filter_cons_of_neg (by simp [h1])]
        refine ⟨ih.1, fun h => ih.2 ?_⟩; rcases List.mem_cons.mp h with z | z
        · exact absurd (z ▸ h1) hn
        · exact z
      · by_cases h2 : u = r
        · rw [List.filter_cons_of_neg (by simp [h2]), List.filter_cons_of_pos (by simp [h1]), List.length_cons]
          have := ih.1; exact ⟨by omega, fun _ => by omega⟩
        · rw [List.filter_cons_of_pos (by simp [h1, h2]), List.filter_cons_of_pos (by simp [h1]), List.length_cons, List.length_cons]
          have := ih.1
          refine ⟨by omega, fun h => ?_⟩
          have := ih.2 ((List.mem_cons.mp h).resolve_left fun z => h2 z.symm)
          omega
  exact (this U).2 hr
theorem left_mono {U T T' : List Wire} (h : ∀ r ∈ T, r ∈ T') : left_ U T' ≤ left_ U T := by
  unfold left_
  induction U with
  | nil => exact Nat.le_refl _
  | cons u U ih =>
    by_cases h1 : u ∈ T
    · rw [List.filter_cons_of_neg (by simp [h u h1]), List.filter_cons_of_neg (by simp [h1])]; exact ih
    · rw [List.filter_cons_of_pos (p := fun u => !decide (u ∈ T)) (by simp [h1]), List.length_cons]
      by_cases h2 : u ∈ T'
      · rw [List.filter_cons_of_neg (by simp [h2])]; omega
      · rw [List.filter_cons_of_pos (by simp [h2]), List.length_cons]; omega
/-- what the loop keeps -/
structure GrowI (adj : Wire → List Wire) (U : List Wire) (m : List (Wire × Wire)) (T : List Wire) (rs : List Wire) (Ti : List Wire) : Prop where
  s : ∀ r ∈ T, r ∈ Ti
  n : Ti.Nodup
  u : ∀ r ∈ Ti, r ∈ U
  r : ∀ r ∈ rs, r ∈ Ti
  c : ClosedT adj m T Ti
theorem GrowI.skip {adj : Wire → List Wire} {U : List Wire} {m : List (Wire × Wire)} {T rs Ti : List Wire} {r : Wire} (h : GrowI adj U m T rs Ti) (hr : r ∈ Ti) : GrowI adj U m T (rs ++ [r]) Ti :=
  ⟨h.s, h.n, h.u, fun x hx => (List.mem_append.mp hx).elim (h.r x) fun z => by rw [List.mem_singleton.mp z]; exact hr, h.c⟩
theorem GrowI.no {adj : Wire → List Wire} {U : List Wire} {m : List (Wire × Wire)} {T rs Ti T' : List Wire} {r x : Wire} (h : GrowI adj U m T rs Ti) (hx : getM m r = some x) (g : GrowNo adj U m (Ti ++ [r]) x T') : GrowI adj U m T (rs ++ [r]) T' := by
  obtain ⟨g1, g2, g3, g4, g5⟩ := g
  have hi : ∀ y ∈ Ti, y ∈ T' := fun y hy => g1 y (List.mem_append_left _ hy)
  have hr : r ∈ T' := g1 r (List.mem_append_right _ (List.mem_singleton.mpr rfl))
  refine ⟨fun y hy => hi y (h.s y hy), g2, g3, fun y hy => (List.mem_append.mp hy).elim (fun z => hi y (h.r y z)) fun z => by rw [List.mem_singleton.mp z]; exact hr, fun y hy hn => ?_⟩
  by_cases h1 : y ∈ Ti
  · obtain ⟨z, hz, hc⟩ := h.c y h1 hn
    exact ⟨z, hz, fun w hw => hi w (hc w hw)⟩
  · by_cases h2 : y = r
    · subst h2
      exact ⟨x, hx, g4⟩
    · exact g5 y hy fun z => (List.mem_append.mp z).elim h1 fun z => h2 (List.mem_singleton.mp z)
/-- r was free -/
theorem GrowYes.free {mN : List (Wire × Addr)} {adj : Wire → List Wire} {U T Ti : List Wire} {m : List (Wire × Wire)} {l r : Wire} (h : GrowOk mN adj U m T l) (hr : r ∈ adj l) (hT : r ∉ T) (hn : getM m r = none) : GrowYes adj m T l (putM m r l) := by
  have hk := getM_none hn
  rw [putM_new _ hk]
  refine ⟨?_, fun x hx => ?_, ?_, fun y hy => ?_⟩
  · rw [List.map_append, List.nodup_append]; exact ⟨h.k, by simp, fun a ha b hb => by rw [List.mem_singleton.mp hb]; exact fun e => hk (by rw [show a = r from e] at ha; exact ha)⟩
  · rcases List.mem_append.mp hx with z | z
    · exact h.e x z
    · rw [List.mem_singleton.mp z]; exact hr
  · rw [List.map_append]; exact List.perm_append_comm
  · rw [← putM_new _ hk, getM_put, if_neg]
    intro z; subst z; exact hT hy
/-- r's owner found another -/
theorem GrowYes.step {mN : List (Wire × Addr)} {adj : Wire → List Wire} {U T Ti : List Wire} {m m' : List (Wire × Wire)} {l r x : Wire} (h : GrowOk mN adj U m T l) (hr : r ∈ adj l) (hT : r ∉ T) (hs : ∀ y ∈ T, y ∈ Ti) (hx : getM m r = some x) (g : GrowYes adj m (Ti ++ [r]) x m') : GrowYes adj m T l (putM m' r l) := by
  obtain ⟨g1, g2, g3, g4⟩ := g
  have hx' : getM m' r = some x := (g4 r (List.mem_append_right _ (List.mem_singleton.mpr rfl))).trans hx
  have p := putM_perm r l g1
  have q := split_key g1 (getM_some hx')
  refine ⟨putM_keys g1, fun y hy => ?_, ?_, fun y hy => ?_⟩
  · rcases List.mem_cons.mp (p.mem_iff.mp hy) with z | z
    · rw [z]; exact hr
    · exact g2 y (List.mem_filter.mp z).1
  · have p1 := p.map Prod.snd
    have q1 := q.map Prod.snd
    rw [List.map_cons] at p1 q1
    have q2 := (q1.symm.trans g3).cons_inv
    exact p1.trans (q2.cons l)
  · rw [getM_put, if_neg (fun z : y = r => hT (z ▸ hy))]
    exact g4 y (List.mem_append_left _ (hs y hy))
theorem er_obj {X : Cx} {Hz : Hp} {ρ : Rho} {e : Expr} {P : PP} (h : ED X Hz ρ e P.p) : ER X Hz ρ e (.obj P) := .imp h fun H v p => .obj p
theorem ed_obj {X : Cx} {Hz : Hp} {ρ : Rho} {e : Expr} {P : PP} (h : ER X Hz ρ e (.obj P)) : ED X Hz ρ e P.p := .imp h fun H v p => by cases p with | obj p => exact p
section
variable {P : Program} {w : World}
variable {K : PySem.W.Frag} {mg : Str → Option Value} {base : Heap}
theorem ok_grow_of (T : Tx K mg) (n : Nat) (rec : ∀ n', n = n' + 1 → DefOk P w K mg base (n' + 1) "grow" (spGrow n')) : DefOk P w K mg base (n + 1) "grow" (spGrow n) := by
  refine T.d_grow (fun vs H Q E ⟨near, lefts, tried, vl, mN, adj, U, m, Tr, l, ev, _⟩ => by subst ev; rfl) fun X vs H Q E ⟨f, cdv, A, outer, s, e⟩ G ⟨near, lefts, tried, vl, mN, adj, U, m, Tr, l, ev, rl, hN, hL, hT, n1, n2, n3, hok, hleft, q⟩ => ?_
  subst e ev
  have E := env_p (N := N_grow) (Ps' := [rf near, rf lefts, R (dWire l), rf tried]) (vs := [.ref near, .ref lefts, vl, .ref tried]) (H := H) (.cons rfl (.cons rfl (.cons rl (.cons rfl .nil))))
  obtain ⟨a, ha⟩ := hok.l
  have hmem := getM_some ha
  have hla := hN.l _ hmem
  have hml : m.length ≤ 1000 := by
    have h1 : (m.map Prod.fst).length ≤ U.length := nodup_len hok.k fun r hr => by
      obtain ⟨x, hx, rfl⟩ := List.mem_map.mp hr
      obtain ⟨a', ha'⟩ := hok.v x hx
      exact hok.u _ (getM_some ha') _ (hok.e x hx)
    rw [List.length_map] at h1
    exact Nat.le_trans h1 hok.ul
  refine s_forA G .never E (srcA_list (ed_obj (er_dget keyE_wire G hN.d (ed_var 0 rfl) (er_var 2 rfl) (getM_near ha))) hla) fun H1 s1 E1 => ?_
  refine ⟨fun i σ' H' => ∃ Ti, Env [some (rf near), some (rf lefts), some (R (dWire l)), some (rf tried), none] σ' H' ∧ But2 lefts tried H1 H' ∧ DictT keWire H' lefts (LT m) ∧ DictT keWire H' tried (TT' Ti) ∧ GrowI adj U m Tr ((adj l).take i) Ti, ⟨Tr, E1, .of (Same.refl _), hL.same s1, hT.same s1, ⟨fun _ h => h, hok.tn, hok.tu, fun r hr => (by cases hr), fun r hr hn => absurd hr hn⟩⟩, fun i σ' H' ⟨Ti, _, b, _⟩ => ⟨b.leT (hL.same s1) (hT.same s1), ?_⟩, fun i d v σ' H' H'' hd ⟨Ti, E', b, hL', hT', hI⟩ sab rv => ?_, fun σ' H' ⟨Ti, E', b, hL', hT', hI⟩ => ?_⟩
  · obtain ⟨vs, e, _⟩ := hla.same s1
    rw [e]
    refine b _ _ (fun z => ?_) (fun z => ?_) e
    · obtain ⟨_, e1, _⟩ := hL.same s1; rw [z, e1] at e; cases e
    · obtain ⟨_, e1, _⟩ := hT.same s1; rw [z, e1] at e; cases e
  · obtain ⟨r, hr, rfl⟩ := get_map hd
    have hrm := List.mem_of_getElem? hr
    have hrU := hok.u _ hmem r hrm
    refine g_name 4 G ?_
    have E2 := (E'.same sab).set 4 (P := R (dWire r)) rv
    have b1 := (But2.of (p := lefts) (q := tried) s1).trans (b.trans (.of sab))
    have hL2 := hL'.same sab
    have hT2 := hT'.same sab
    refine s_if E2 (td_dnin keyE_wire G hT2.r (ed_var 3 rfl) (er_var 4 rfl)) (fun hk H3 s3 E3 => ?_) fun hk H3 s3 E3 => ?_
    · rw [getM_TT, Bool.not_eq_true', decide_eq_false_iff_not] at hk
      have hTl : Ti.length ≤ 1000 := Nat.le_trans (nodup_len hI.n hI.u) hok.ul
      have hrT : r ∉ Tr := fun z => hk (hI.s r z)
      refine s_dput keyE_wire G E3 (hT2.same s3) (by rw [List.length_map]; omega) (ed_var 3 rfl) (er_var 4 rfl) er_bl fun H4 s4 hT4 E4 => ?_
      rw [putM_TT hk] at hT4
      have hL4 := (hL2.same s3).but (hT2.same s3) s4 n3
      have b4 := (b1.trans (.of s3)).trans (.of2 s4)
      have hN4 := hN.but b4 hL hT n1 n2
      refine s_cons (.by (ps_if pt_W pss_W pss_W) (.by (PW.pt (pw_or pt_W (pw_or1 pt_W))) ?_))
      refine (td_dnin keyE_wire G hL4.r (ed_var 1 rfl) (er_var 4 rfl)).run _ H4 _ E4.en fun H5 s5 => ?_
      rw [getM_LT, Option.isSome_map]
      cases hx : getM m r with
      | none =>
        refine iteT ?_
        have hT5 := hT4.same s5
        have hL5 := hL4.same s5
        refine s_dput keyE_wire G (E4.same s5) hL5 (by rw [List.length_map]; omega) (ed_var 1 rfl) (er_var 4 rfl) (er_var 2 rfl) fun H6 s6 hL6 E6 => ?_
        rw [putM_LT] at hL6
        refine s_ret E6 er_bl fun v H7 s7 rv => ?_
        cases rv
        exact q true _ _ H7 (((b4.trans (.of s5)).trans (.of1 s6)).trans (.of s7)) (hL6.same s7) ((hT5.but hL5 s6 n3.symm).same s7) (fun _ => GrowYes.free (Ti := Ti) hok hrm hrT hx) fun z => by cases z
      | some x =>
        refine iteF ?_
        refine .by (pt_val pe_W (by intro _; rfl)) ?_
        obtain ⟨n', rfl⟩ : ∃ n', n = n' + 1 := by
          have := left_add hrU hk
          have := left_mono hI.s (U := U)
          exact ⟨n - 1, by omega⟩
        refine we_call (rec n' rfl) (G.mono (Nat.le_refl _)) ?_
        have E5 := E4.same s5
        refine (ad_cons (er_obj (ed_var 0 rfl)) (ad_cons (er_obj (ed_var 1 rfl)) (ad_cons (er_dget keyE_wire G (hL4.same s5).r (ed_var 1 rfl) (er_var 4 rfl) (by rw [getM_LT, hx]; rfl)) (ad_one (er_obj (ed_var 3 rfl)))))).run _ H5 _ E5.en fun vs H6 s6 r6 => ?_
        obtain ⟨ra, rb, rc, rd_⟩ : ∃ u, vs = [.ref near, .ref lefts, u, .ref tried] ∧ Rep H6 (dWire x) u ∧ True := by
          cases r6 with
          | cons p1 r6 =>
            cases r6 with
            | cons p2 r6 =>
              cases r6 with
              | cons p3 r6 =>
                cases r6 with
                | cons p4 r6 =>
                  cases r6
                  cases p1 with
                  | obj e1 =>
                    cases p2 with
                    | obj e2 =>
                      cases p4 with
                      | obj e4 =>
                        obtain rfl := (show _ = _ from e1)
                        obtain rfl := (show _ = _ from e2)
                        obtain rfl := (show _ = _ from e4)
                        exact ⟨_, rfl, p3, trivial⟩
        subst rb
        have s46 := s5.trans s6
        have b6 := b4.trans (.of s46)
        have hL6 := hL4.same s46
        have hT6 := hT4.same s46
        have hxm := getM_some hx
        have hok6 : GrowOk mN adj U m (Ti ++ [r]) x := ⟨hok.v _ hxm, hok.u, hok.ul, hok.k, hok.e, hok.v, by
          rw [List.nodup_append]
          exact ⟨hI.n, by simp, fun a ha b hb => by rw [List.mem_singleton.mp hb]; exact fun e => hk (by rw [show a = r from e] at ha; exact ha)⟩, fun y hy => (List.mem_append.mp hy).elim (hI.u y) fun z => by rw [List.mem_singleton.mp z]; exact hrU⟩
        refine ⟨near, lefts, tried, ra, mN, adj, U, m, Ti ++ [r], x, rfl, rc, hN4.but (.of s46) hL4 hT4 n1 n2, hL6, hT6, n1, n2, n3, hok6, ?_, fun b m' T' H7 b7 hL7 hT7 hyes hno => ?_⟩
        · have := left_add hrU hk
          have := left_mono hI.s (U := U)
          omega
        have E6 := E5.same s6
        have E7 := E6.le (b7.leT hL6 hT6)
        cases b with
        | true =>
          refine ⟨true, rfl, ?_⟩
          refine iteT ?_
          have hg := hyes rfl
          have hml' : m'.length ≤ 1001 := by
            have := hg.2.2.1.length_eq
            rw [List.length_map, List.length_cons, List.length_map] at this
            omega
          refine s_dput keyE_wire G E7 hL7 (by rw [List.length_map]; omega) (ed_var 1 rfl) (er_var 4 rfl) (er_var 2 rfl) fun H8 s8 hL8 E8 => ?_
          rw [putM_LT] at hL8
          refine s_ret E8 er_bl fun v H9 s9 rv => ?_
          cases rv
          exact q true _ _ H9 (((b6.trans b7).trans (.of1 s8)).trans (.of s9)) (hL8.same s9) ((hT7.but hL7 s8 n3.symm).same s9) (fun _ => GrowYes.step hok hrm hrT hI.s hx hg) fun z => by cases z
        | false =>
          obtain ⟨rfl, hg⟩ := hno rfl
          refine ⟨false, rfl, ?_⟩
          refine iteF (s_nil (s_nil (s_nil ?_)))
          refine ⟨T', E7.fg (.k (.k (.k (.k (.d .nil))))), ?_, hL7, hT7, ?_⟩
          · exact (b.trans (.of (sab.trans s3))).trans ((But2.of2 s4).trans ((But2.of s46).trans b7))
          · rw [take_snoc hr]
            exact hI.no hx hg
    · rw [getM_TT, Bool.not_eq_false', decide_eq_true_eq] at hk
      refine s_nil (s_nil ?_)
      refine ⟨Ti, E3.fg (.k (.k (.k (.k (.d .nil))))), b.trans (.of (sab.trans s3)), hL2.same s3, hT2.same s3, ?_⟩
      rw [take_snoc hr]
      exact hI.skip hk
  · rw [List.length_map, List.take_length] at hI
    refine s_ret E' er_bl fun v H2 s2 rv => ?_
    cases rv
    exact q false m Ti H2 (((But2.of s1).trans b).trans (.of s2)) (hL'.same s2) (hT'.same s2) (fun z => by cases z) fun _ => ⟨rfl, hI.s, hI.n, hI.u, hI.r, hI.c⟩
theorem ok_grow (T : Tx K mg) : ∀ n : Nat, DefOk P w K mg base (n + 1) "grow" (spGrow n)
  | 0 => ok_grow_of T 0 fun n' e => by cases e
  | n + 1 => ok_grow_of T (n + 1) fun n' e => by cases e; exact ok_grow T n
end
end K31
namespace K31
open L2 PySem PySem.Spec PyProof.Rows
theorem rep_wire {H : Hp} {x : Wire} {b : Addr} (h : H b = some (.tup ((keWire x).map kV))) : Rep H (dWire x) (.ref b) := .tup h (.cons (.str _) (.cons (.int _) .nil))
section
variable {X : Cx} {ρ : Rho} {tg it : Expr} {pos : Pos} {k : Nat} {σ : L2.St} {H : Hp} {D' : Ends} {rest body : List Stmt} {κ : Type} {ke : κ → List Key} {kd : κ → D} {l : Addr} {m : List (κ × D)}
/-- for x in d, d a dict under tuples, locked while the loop runs -/
theorem s_forKT (hrep : ∀ {H : Hp} {x : κ} {b : Addr}, H b = some (.tup ((ke x).map kV)) → Rep H (kd x) (.ref b)) (G : GX X k) (hp : PassesOwn (model X.prog X.w) X.A X.env X.xe) (E : Env ρ σ H) (hm : DictT ke H l m) (ha : ∀ Hz, ED X Hz ρ it (rf l).p)
    (q : ∀ od u H1, H l = some u → Imm u = false → (∀ H', Le H1 H' → H' l = H1 l → DictR ke H' l m) → Le H H1 → SameBut l H H1 → H1 l = some (.frz od u) → Env ρ σ H1 → ∃ J : Nat → L2.St → Hp → Prop, J 0 σ H1 ∧ (∀ i σ' H', J i σ' H' → Le H1 H' ∧ H' l = H1 l) ∧
      (∀ i x v σ' H', (m.map (·.1))[i]? = some x → J i σ' H' → Rep H' (kd x) v → WG X tg v σ' H' fun σ2 H2 => WSs X body { nx := J (i + 1), ct := J (i + 1), bk := fun σ' H' => H' l = some (.frz od u) ∧ WSs X rest D' σ' (upd H' l u), rt := fun v H' => H' l = some (.frz od u) ∧ D'.rt v (upd H' l u) } σ2 H2) ∧
      (∀ σ' H', J m.length σ' H' → WSs X rest D' σ' (upd H' l u)))
    (hs : ∀ x, foldedSetIterable it X.env x = pure x := by intro _; rfl) : WSs X (.For tg it body [] pos :: rest) D' σ H := by
  obtain ⟨vs, hd, r⟩ := hm
  refine s_cons (.by (ps_lock (ps_for hp G.calm (pi_keys pe_W) pg_W pss_W hs)) ⟨l, _, hd, trivial, fun od => ?_⟩)
  have le0 : Le H (upd H l (.frz od (.dT ((m.map fun e => ke e.1).zip vs)))) := Le.upd hd rfl
  refine (ha _).run σ _ _ ⟨Same.refl _, E.le le0⟩ fun v H1 s1 ev => ?_
  obtain rfl : v = .ref l := ev
  have h1 := s1 _ _ (upd_same (H := H) (a := l) (o := .frz od (.dT ((m.map fun e => ke e.1).zip vs))))
  obtain ⟨J, j0, jl, js, jd⟩ := q od _ H1 hd rfl (fun H' le e => ⟨vs, .inr ⟨od, e.trans h1⟩, r.le (le0.trans ((Le.of s1).trans le))⟩) (le0.trans (.of s1)) (fun a o na ho => s1 a o (by rw [upd_ne na]; exact ho)) h1 (E.le (le0.trans (.of s1)))
  refine ⟨l, od, rfl, .inr ⟨_, h1, ?_⟩⟩
  have hlen : ((m.map fun e => ke e.1).zip vs).length = m.length := by
    have := r.length
    rw [List.length_map] at this
    rw [List.length_zip, List.length_map, ← this, Nat.min_self]
  have wk : Walk (Itkt l od ((m.map fun e => ke e.1).zip vs)) m.length (fun H' => H' l = some (.frz od (.dT ((m.map fun e => ke e.1).zip vs)))) (fun i Ha v Hb => Hb = Ha ∧ ∃ (kk : List Key) (w : V) (b : Addr), ((m.map fun e => ke e.1).zip vs)[i]? = some (kk, w) ∧ v = .ref b ∧ Ha b = some (.tup (kk.map kV))) := ⟨fun i H hi g => ⟨g, by rw [hlen]; exact hi⟩, fun H g => ⟨g, by rw [hlen]; exact Nat.le_refl _⟩, fun i Ha v Hb hi g y => y⟩
  refine for_it wk J j0 (fun i σ' H' _ j => (jl i σ' H' j).2.trans h1) (fun i x σ' H' H'' hi' j y => ?_) fun σ' H' j => ⟨(jl _ σ' H' j).2.trans h1, jd σ' H' j⟩
  obtain ⟨rfl, kk, w, b, hk, rfl, hb⟩ := y
  have hx : (m.map (·.1))[i]? = some m[i].1 := by rw [List.getElem?_map, List.getElem?_eq_getElem hi']; rfl
  have : kk = ke m[i].1 := by
    have h2 := List.getElem?_zip_eq_some.mp hk
    rw [List.getElem?_map, List.getElem?_eq_getElem hi'] at h2
    have := h2.1; exact (Option.some.inj this).symm
  subst this
  exact js i _ _ σ' H'' hx j (hrep hb)
end
end K31
namespace K31
open L2 PySem PySem.Spec PyProof.Rows
/-! ### the program's matching -/
structure MatI (E : List (Wire × Wire)) (dn : List Wire) (m : List (Wire × Wire)) : Prop where
  gm : GM E m
  vs : ∀ x ∈ m, x.2 ∈ dn
  st : ∀ l ∈ dn, (∃ r, (l, r) ∈ flipM m) ∨ ∃ T, Stuck E (flipM m) l T
theorem MatI.yes {E : List (Wire × Wire)} {dn : List Wire} {m m' : List (Wire × Wire)} {adj : Wire → List Wire} {l : Wire} {T : List Wire} (hE : ∀ x r, (x, r) ∈ E ↔ (x ∈ dn ∨ x = l ∨ (∃ r', (x, r') ∈ E)) ∧ r ∈ adj x) (h : MatI E dn m) (hl : l ∉ dn) (g : GrowYes adj m T l m') : MatI E (dn ++ [l]) m' := by
  obtain ⟨g1, g2, g3, g4⟩ := g
  have hv : ∀ x, x ∈ m'.map Prod.snd ↔ x = l ∨ x ∈ m.map Prod.snd := fun x => by rw [g3.mem_iff, List.mem_cons]
  have hvd : ∀ x ∈ m.map Prod.snd, x ∈ dn := fun x hx => by obtain ⟨y, hy, rfl⟩ := List.mem_map.mp hx; exact h.vs y hy
  have hgm : GM E m' := by
    refine ⟨g1, ?_, fun x hx => ?_⟩
    · rw [g3.nodup_iff, List.nodup_cons]
      exact ⟨fun z => hl (hvd l z), h.gm.v⟩
    · rw [hE]
      refine ⟨?_, g2 x hx⟩
      rcases (hv x.2).mp (List.mem_map_of_mem hx) with z | z
      · exact .inr (.inl z)
      · exact .inl (hvd _ z)
  have keep : ∀ x, (∃ r, (x, r) ∈ flipM m) → ∃ r, (x, r) ∈ flipM m' := fun x ⟨r, hr⟩ => by
    have h1 := flip_mem.mp hr
    obtain ⟨y, hy, e⟩ := List.mem_map.mp ((hv x).mpr (.inr (List.mem_map_of_mem h1)))
    exact ⟨y.1, flip_mem.mpr (by rw [← e]; exact hy)⟩
  refine ⟨hgm, fun x hx => ?_, fun x hx => ?_⟩
  · rcases (hv x.2).mp (List.mem_map_of_mem hx) with z | z
    · rw [z]; exact List.mem_append_right _ (List.mem_singleton.mpr rfl)
    · exact List.mem_append_left _ (hvd _ z)
  · rcases List.mem_append.mp hx with z | z
    · rcases h.st x z with y | ⟨T, y⟩
      · exact .inl (keep x y)
      · exact .inr ⟨T, y.keep h.gm.mat hgm.mat fun e he => keep e.1 ⟨e.2, he⟩⟩
    · rw [List.mem_singleton.mp z]; obtain ⟨y, hy, e⟩ := List.mem_map.mp ((hv l).mpr (.inl rfl))
      exact .inl ⟨y.1, flip_mem.mpr (by rw [← e]; exact hy)⟩
theorem MatI.no {E : List (Wire × Wire)} {dn U : List Wire} {m : List (Wire × Wire)} {adj : Wire → List Wire} {l : Wire} {T' : List Wire} (hE : ∀ x r, (x, r) ∈ E → r ∈ adj x) (h : MatI E dn m) (g : GrowNo adj U m [] l T') : MatI E (dn ++ [l]) m := by
  obtain ⟨g1, g2, g3, g4, g5⟩ := g
  refine ⟨h.gm, fun x hx => List.mem_append_left _ (h.vs x hx), fun x hx => ?_⟩
  rcases List.mem_append.mp hx with z | z
  · exact h.st x z
  · rw [List.mem_singleton.mp z]; refine .inr ⟨T', fun r hr => g4 r (hE _ _ hr), fun r hr => ?_⟩
    obtain ⟨y, hy, hc⟩ := g5 r hr (fun z => by cases z)
    exact ⟨y, flip_mem.mpr (getM_some hy), fun r' hr' => hc r' (hE _ _ hr')⟩
theorem MatI.full {E : List (Wire × Wire)} {dn : List Wire} {m : List (Wire × Wire)} (h : MatI E dn m) (hd : ∀ e ∈ E, e.1 ∈ dn) : m.length = maxN E := by
  have := maxN_full h.gm.mat fun e he => h.st e.1 (hd e he)
  rw [← this]
  unfold flipM
  rw [List.length_map]
/-- wires stay where the tuples stay -/
theorem wire_keep {H H' : Hp} (ht : ∀ a xs, H a = some (.tup xs) → H' a = some (.tup xs)) {x : Wire} {v : V} (r : Rep H (dWire x) v) : Rep H' (dWire x) v := by
  cases r with
  | tup h r1 =>
    obtain ⟨v, u, rfl, ra, rb⟩ := r1.two
    cases ra; cases rb
    exact rep_wire (ht _ _ h)
theorem wires_keep {H H' : Hp} (ht : ∀ a xs, H a = some (.tup xs) → H' a = some (.tup xs)) : ∀ {m : List (Wire × Wire)} {vs : List V}, RepL H ((LT m).map (·.2)) vs → RepL H' ((LT m).map (·.2)) vs
  | [], _, .nil => .nil
  | _ :: _, _, .cons r t => .cons (wire_keep ht r) (wires_keep ht t)
end K31
namespace K31
open L2 PySem PySem.Spec PyProof.Rows
/-- the neighbours E of a near dict -/
structure NearOk (mN : List (Wire × Addr)) (adj : Wire → List Wire) (U : List Wire) (E : List (Wire × Wire)) (n : Nat) : Prop where
  k : (mN.map Prod.fst).Nodup
  u : ∀ x ∈ mN, ∀ r ∈ adj x.1, r ∈ U
  un : U.length ≤ n
  ul : n ≤ 1000
  e : ∀ l r, (l, r) ∈ E ↔ l ∈ mN.map Prod.fst ∧ r ∈ adj l
def spMatched (n : Nat) : Sp := fun vs H Q _ => ∃ (near : Addr) (mN : List (Wire × Addr)) (adj : Wire → List Wire) (U : List Wire) (Es : List (Wire × Wire)),
  vs = [.ref near] ∧ NearT H near mN adj ∧ DictT keWire H near (mN.map fun x => (x.1, .obj (rf x.2))) ∧ NearOk mN adj U Es n ∧
  ∀ lefts m H', Same H H' → DictT keWire H' lefts (LT m) → m.length = maxN Es → m.length ≤ 1000 → Q (.ref lefts) H'
theorem Env.any3 {a b : Addr} {σ : L2.St} {H H' : Hp} (E : Env [some (rf a), some (rf b), none] σ H) : Env [some (rf a), some (rf b), none] σ H' := ⟨E.len, fun i P h => by
  obtain ⟨v, e, p⟩ := E.at_ i P h
  refine ⟨v, e, ?_⟩
  match i, h with
  | 0, h => cases h; exact p
  | 1, h => cases h; exact p
  | 2, h => cases h
  | n + 3, h => cases h⟩
def NewT {κ : Type} (ke : κ → List Key) (Hz : Hp) (H : Hp) (v : V) : Prop := ∃ t, v = .ref t ∧ Hz t = none ∧ DictT ke H t []
theorem stb_NewT {κ : Type} [DecidableEq κ] {ke : κ → List Key} {Hz : Hp} : Stb (NewT ke Hz) := ⟨fun s ⟨t, e, h, d⟩ => ⟨t, e, h, d.same s⟩⟩
theorem ed_dnewT {κ : Type} (ke : κ → List Key) {X : Cx} {Hz : Hp} {ρ : Rho} {pos : Pos} : ED X Hz ρ (.Dict [] [] pos) (NewT ke Hz) := .by pe_dnewT fun σ H Q E q => fun t ht => by
  refine q _ _ (same_upd ht) ⟨t, rfl, ?_, [], upd_same, .nil⟩
  cases h : Hz t with
  | none => rfl
  | some o => have := E.s0 _ _ h; rw [ht] at this; cases this
section
variable {P : Program} {w : World}
variable {K : PySem.W.Frag} {mg : Str → Option Value} {base : Heap}
theorem ok_matched (T : Tx K mg) (n : Nat) : DefOk P w K mg base (n + 2) "matched" (spMatched n) := by
  refine T.d_matched (fun vs H Q E ⟨near, mN, adj, U, Es, ev, _⟩ => by subst ev; rfl) fun X vs H Q E ⟨f, cdv, A, outer, s, e⟩ G ⟨near, mN, adj, U, Es, ev, hN, hD, hok, q⟩ => ?_
  subst e ev
  have E := env_p (N := N_matched) (Ps' := [rf near]) (vs := [.ref near]) (H := H) (.cons rfl .nil)
  refine s_setDT 1 keWire G E fun lefts σ1 H1 hl s1 hL1 E1 => ?_
  have hDn1 := hD.same s1
  have hnl : near ≠ lefts := by intro z; obtain ⟨_, e, _⟩ := hD; rw [z, hl] at e; cases e
  refine s_forKT (kd := dWire) rep_wire G .never E1 hDn1 (fun Hz => ed_var 0 rfl) fun od u H2 hu hi hdr le2 sb2 hz2 E2 => ?_
  have hks : (mN.map fun x => (x.1, D.obj (rf x.2))).map (·.1) = mN.map Prod.fst := by rw [List.map_map]; rfl
  rw [hks]
  have hN1 := hN
  have hL2 : DictT keWire H2 lefts (LT []) := by
    obtain ⟨vs, e, r⟩ := hL1
    exact ⟨vs, sb2 _ _ hnl.symm e, r.le le2⟩
  refine ⟨fun i σ' H' => Env [some (rf near), some (rf lefts), none] σ' H' ∧ SameBut lefts H2 H' ∧ ∃ m, DictT keWire H' lefts (LT m) ∧ MatI Es ((mN.map Prod.fst).take i) m, ⟨E2, .refl _ _, [], hL2, ?_⟩, fun i σ' H' ⟨_, b, m, hL, _⟩ => ⟨?_, ?_⟩, fun i x v σ' H' hx ⟨E', b, m, hL, hI⟩ rv => ?_, fun σ' H' ⟨E', b, m, hL, hI⟩ => ?_⟩
  · exact ⟨⟨List.nodup_nil, List.nodup_nil, fun x hx => by cases hx⟩, fun x hx => (by cases hx), fun x hx => (by cases hx)⟩
  · obtain ⟨_, e, _⟩ := hL2
    exact b.le e rfl
  · rw [hz2]; exact b _ _ hnl hz2
  · refine g_name 2 G ?_
    have E3 := E'.set 2 (P := R (dWire x)) rv
    refine s_expr (we_call (ok_grow T n) (G.mono (Nat.le_refl _)) ?_)
    refine (ap_cons (stb_PP (rf near)) (ed_var 0 rfl) (ap_cons (stb_PP (rf lefts)) (ed_var 1 rfl) (ap_cons stb_R (er_var 2 rfl) (ap_cons stb_NewT (ed_dnewT keWire) ap_nil)))).run _ H' _ E3.en fun vs H6 s6 r6 => ?_
    obtain ⟨v1, us1, rfl, p1, v2, us2, rfl, p2, v3, us3, rfl, p3, v4, us4, rfl, ⟨t, rfl, ht, hT⟩, p4⟩ := r6
    obtain rfl : v1 = .ref near := p1
    obtain rfl : v2 = .ref lefts := p2
    obtain rfl : us4 = [] := p4
    have le26 : Le H2 H6 := by
      obtain ⟨_, e, _⟩ := hL2
      exact (b.le e rfl).trans (.of s6)
    have hz' : H' near = some (.frz od u) := b _ _ hnl hz2
    have hnt : near ≠ t := by intro z; rw [← z, hz'] at ht; cases ht
    have hlt : lefts ≠ t := by intro z; obtain ⟨_, e, _⟩ := hL; rw [z, ht] at e; cases e
    have hN6 : NearT H6 near mN adj := by
      refine ⟨hdr H6 le26 ((s6 _ _ hz').trans hz2.symm), fun y hy => ?_⟩
      obtain ⟨vs, e, r⟩ := hN.l y hy
      refine ⟨vs, s6 _ _ (b _ _ (fun z => ?_) (sb2 _ _ (fun z => ?_) (s1 _ _ e))), r.le ((Le.of s1).trans (le2.trans le26))⟩
      · rw [z, hl] at e; cases e
      · obtain ⟨_, e1, _⟩ := hD; rw [z, e1] at e; cases e
    have hL6 := hL.same s6
    have hxl : x ∉ (mN.map Prod.fst).take i := fun hm => by
      have h2 : ((mN.map Prod.fst).take (i + 1)).Nodup := hok.k.sublist (List.take_sublist _ _)
      rw [take_snoc hx, List.nodup_append] at h2
      exact h2.2.2 x hm x (List.mem_singleton.mpr rfl) rfl
    have hxm := List.mem_of_getElem? hx
    have hget : ∀ y, y ∈ mN.map Prod.fst → ∃ a, getM mN y = some a := fun y hy => Option.isSome_iff_exists.mp (getM_isSome.mpr hy)
    have hgo : GrowOk mN adj U m [] x := ⟨hget x hxm, hok.u, Nat.le_trans hok.un hok.ul, hI.gm.k, fun y hy => ((hok.e _ _).mp (hI.gm.e y hy)).2, fun y hy => hget _ ((hok.e _ _).mp (hI.gm.e y hy)).1, List.nodup_nil, fun r hr => by cases hr⟩
    refine ⟨near, lefts, t, v3, mN, adj, U, m, [], x, rfl, p3, hN6, hL6, hT, hnl, hnt, hlt, hgo, Nat.le_trans (List.length_filter_le _ _) hok.un, fun bb m' T' H7 b7 hL7 hT7 hyes hno => ?_⟩
    have E7 := (E3.same s6).le (b7.leT hL6 hT)
    refine s_nil ⟨E7.fg (.k (.k (.d .nil))), fun a o na ha => ?_, m', hL7, ?_⟩
    · have h1 := b _ _ na ha
      exact b7 _ _ na (fun z => by rw [z, ht] at h1; cases h1) (s6 _ _ h1)
    · rw [take_snoc hx]
      cases bb with
      | true =>
        refine MatI.yes (adj := adj) (fun y r => ?_) hI hxl (hyes rfl)
        rw [hok.e]
        refine ⟨fun h => ⟨.inr (.inr ⟨r, (hok.e _ _).mpr h⟩), h.2⟩, fun h => ⟨?_, h.2⟩⟩
        rcases h.1 with z | z | ⟨r', z⟩
        · exact List.mem_of_mem_take z
        · rw [z]; exact hxm
        · exact ((hok.e _ _).mp z).1
      | false =>
        obtain ⟨rfl, hg⟩ := hno rfl
        exact MatI.no (fun y r hy => ((hok.e _ _).mp hy).2) hI hg
  · rw [List.length_map] at hI
    have ht : ∀ a xs, H' a = some (.tup xs) → upd H' near u a = some (.tup xs) := fun a xs h => by
      by_cases hz : a = near
      · subst hz
        have := b _ _ hnl hz2
        rw [h] at this; cases this
      · rw [upd_ne hz]; exact h
    have sF : Same H (upd H' near u) := fun a o ha => by
      by_cases hz : a = near
      · subst hz
        have := s1 _ _ ha
        rw [hu] at this; cases this; exact upd_same
      · rw [upd_ne hz]
        have hal : a ≠ lefts := by intro z; rw [z, hl] at ha; cases ha
        exact b _ _ hal (sb2 _ _ hz (s1 _ _ ha))
    have hLF : DictT keWire (upd H' near u) lefts (LT m) := by
      obtain ⟨vs, e, r⟩ := hL
      exact ⟨vs, by rw [upd_ne hnl.symm]; exact e, wires_keep ht r⟩
    refine s_ret (E'.any3 (H' := upd H' near u)) (ed_var 1 rfl) fun v H4 s4 ev => ?_
    obtain rfl : v = .ref lefts := ev
    have hfull : m.length = maxN Es := hI.full fun e he => by
      have := ((hok.e e.1 e.2).mp he).1
      have hlen : (mN.map Prod.fst).length = mN.length := List.length_map ..
      rw [List.take_of_length_le (by omega)]
      exact this
    refine q lefts m H4 (sF.trans s4) (hLF.same s4) hfull ?_
    have h1 : (m.map Prod.fst).length ≤ U.length := nodup_len hI.gm.k fun r hr => by
      obtain ⟨y, hy, rfl⟩ := List.mem_map.mp hr
      have := (hok.e _ _).mp (hI.gm.e y hy)
      obtain ⟨z, hz, e⟩ := List.mem_map.mp this.1
      exact hok.u z hz _ (by rw [e]; exact this.2)
    rw [List.length_map] at h1
    have := hok.un; have := hok.ul; omega
end
end K31
namespace K31
open L2 PySem PySem.Spec PyProof.Rows
section
variable {X : Cx}
theorem setd_DT {pins : List (Addr × Obj)} {σ : L2.St} {H : Hp} {z : Shared} {A : Around} {E : Value → Shared → Prop} {d b : Addr} {kvs : List (List Key × V)} {ks : List Key} {x : V} {ux : Value} {Q : Value → Shared → Prop} (hu : A.in1.units < cLine) (I : Inv X pins σ H z) (hd : H d = some (.dT kvs)) (hz : kvs.length < sizeLine)
    (hb : H b = some (.tup (ks.map kV))) (rx : RelV x ux) (h1 : ∀ v, valV kvs ks = some v → ∀ (w' : Value) (s' : Shared), Inv X pins σ H s' → RelV v w' → Q w' s') (h2 : valV kvs ks = none → ∀ (w' : Value) (s' : Shared), Inv X pins σ (upd H d (.dT (putK kvs ks x))) s' → RelV x w' → Q w' s') :
    wpAny (model X.prog X.w) A (call (.builtin "dict.setdefault") [.ref d, .ref b, ux]) Q E z := by
  obtain ⟨n1, n2, es, rel, dd⟩ := dt_of I.hok hd
  have n3 := length_putK kvs ks x
  have q := rel.val ks
  refine call_setdefault_heap (hsz := by rw [← Paired.length rel]; exact n1) hu (key_of I.hok hb) n2 dd (fun p hp => ?_) fun hn h' dd' sb => ?_
  · rw [hp] at q
    cases q0 : valV kvs ks with
    | none => rw [q0] at q; exact (show False from q).elim
    | some v0 => rw [q0] at q; exact h1 v0 q0 _ _ (I.tok _) q
  · rw [hn] at q
    cases q0 : valV kvs ks with
    | some v0 => rw [q0] at q; exact (show False from q).elim
    | none =>
      obtain ⟨o, a1, a2, a3, a4, a5, a6, _, a7⟩ := dd'
      refine h2 q0 _ _ (d_write I (by rw [hd]; exact True.intro) sb ⟨o, a3⟩ ⟨by omega, n2, _, (rel.put ks hb rx).keeps fun c ys ec => ?_, o, a1, a2, a3, a4, a5, a6, a7⟩) rx
      rw [upd_ne (ne_of ec hd (fun t => nomatch t))]
      exact ec
def tDSetdT (td ty tx : TE) : TE := fun σ H Q => td σ H fun x H1 => ∃ a, x = .ref a ∧ IsD H1 a ∧ ty σ H1 fun y H2 => tx σ H2 fun z H3 => ∃ (kvs : List (List Key × V)) (ks : List Key) (b : Addr), H3 a = some (.dT kvs) ∧ y = .ref b ∧ H3 b = some (.tup (ks.map kV)) ∧ kvs.length < sizeLine ∧
  (∀ v, valV kvs ks = some v → Q v H3) ∧ (valV kvs ks = none → Q z (upd H3 a (.dT (putK kvs ks z))))
variable {o e f : Expr} {td ty tx : TE} {apos cpos : Pos}
theorem pe_dsetdT (hu : X.A.units + 1 < cLine) (ho : PE X o td) (he : PE X e ty) (hf : PE X f tx) (m : M2 X o "setdefault" apos e f cpos) : PE X (.Call (.Attribute o "setdefault" apos) [e, f] [] cpos) (tDSetdT td ty tx) := by
  refine ⟨fun pins s σ H Q I h => ?_⟩; refine wpAny_Call_method m.base m.few m.line PySem.F.plainAttrs_dict PySem.F.slot_dict_setdefault PySem.F.type_dict_setdefault (thn (ho.run pins s σ H _ I h) fun u s1 ⟨x, H1, I1, rx, a, ex, d, q1⟩ => ?_)
  subst ex
  obtain rfl : u = Value.ref a := rx; obtain ⟨t1, t2, _⟩ := isD_at I1 d
  refine ⟨t1, t2, ?_⟩
  rw [m.trees]
  refine Calls.callWith_builtin rfl (Calls.evalArgs_plain (Calls.spliced_cons (thn (he.run pins s1 σ H1 _ I1 q1) fun iv s2 ⟨y, H2, I2, ry, q2⟩ => Calls.spliced_cons (thn (hf.run pins s2 σ H2 _ I2 q2) fun fv s3 ⟨z, H3, I3, rz, kvs, ks, b, ea, ey, eb, hl, q3, q4⟩ => Calls.spliced_nil ?_))))
  subst ey
  obtain rfl : iv = Value.ref b := ry
  exact setd_DT hu I3 ea hl eb rz (fun v hv w' s4 I4 rw' => ⟨v, _, I4, rw', q3 v hv⟩) fun hn w' s4 I4 rw' => ⟨z, _, I4, rw', q4 hn⟩
end
end K31
namespace K31
open L2 PySem PySem.Spec PyProof.Rows
/-- the neighbours so far: the dict, its lists apart from all before -/
structure NearI (H0 H : Hp) (a : Addr) (mN : List (Wire × Addr)) (adj : Wire → List Wire) : Prop where
  d : DictT keWire H a (mN.map fun x => (x.1, .obj (rf x.2)))
  l : ∀ x ∈ mN, LstAt H x.2 ((adj x.1).map dWire)
  k : (mN.map Prod.fst).Nodup
  v : (mN.map Prod.snd).Nodup
  f : ∀ x ∈ mN, H0 x.2 = none
  n : ∀ x, x ∉ mN.map Prod.fst → adj x = []
  s : Same H0 H
  fa : H0 a = none
theorem NearI.same {H0 H H' : Hp} {a : Addr} {mN : List (Wire × Addr)} {adj : Wire → List Wire} (h : NearI H0 H a mN adj) (s : Same H H') : NearI H0 H' a mN adj := ⟨h.d.same s, fun x hx => (h.l x hx).same s, h.k, h.v, h.f, h.n, h.s.trans s, h.fa⟩
theorem putM_near {mN : List (Wire × Addr)} {x : Wire} {p : Addr} (h : x ∉ mN.map Prod.fst) : putM (mN.map fun x => (x.1, D.obj (rf x.2))) x (.obj (rf p)) = (mN ++ [(x, p)]).map fun x => (x.1, D.obj (rf x.2)) := by
  rw [putM_new _ (by rw [List.map_map]; exact h), List.map_append]; rfl
theorem getM_near_none {mN : List (Wire × Addr)} {l : Wire} (h : getM (mN.map fun x => (x.1, D.obj (rf x.2))) l = none) : l ∉ mN.map Prod.fst := by
  have := getM_none h
  rw [List.map_map] at this
  exact this
abbrev adjAdd (adj : Wire → List Wire) (x r : Wire) : Wire → List Wire := fun y => if y = x then adj x ++ [r] else adj y
section
variable {X : Cx} {ρ : Rho} {o e f : Expr} {pos p pp pos2 pos3 apos apos2 cpos cpos2 : Pos} {k : Nat} {σ : L2.St} {H H0 : Hp} {D' : Ends} {rest : List Stmt} {l : Addr} {mN : List (Wire × Addr)} {adj : Wire → List Wire} {x r : Wire}
theorem s_setdApp (G : GX X k) (E : Env ρ σ H) (hN : NearI H0 H l mN adj) (hz : mN.length < 100000) (hlen : (adj x).length < 100000) (ho : ∀ Hz, ED X Hz ρ o (rf l).p) (hk : ∀ Hz, ER X Hz ρ e (dWire x)) (hv : ∀ Hz, ER X Hz ρ f (dWire r))
    (q : ∀ H' mN', NearI H0 H' l mN' (adjAdd adj x r) → (∀ y, y ∈ mN'.map Prod.fst ↔ y ∈ mN.map Prod.fst ∨ y = x) → mN'.length ≤ mN.length + 1 → Le H H' → Env ρ σ H' → WSs X rest D' σ H')
    (m : M2 X o "setdefault" apos e (.List [] pos2) cpos := by exact ⟨rfl, rfl, rfl, rfl⟩)
    (hbase : attributeBase (.Call (.Attribute o "setdefault" apos) [e, .List [] pos2] [] cpos) "append" X.env (eval (.Call (.Attribute o "setdefault" apos) [e, .List [] pos2] [] cpos) X.env) = eval (.Call (.Attribute o "setdefault" apos) [e, .List [] pos2] [] cpos) X.env := by rfl)
    (hfew : ((backTo cpos2 (starEach [f] X.env)).all (fun x => !x.1) && (backToKw cpos2 (keywordEach [] X.env)).all (fun x => x.1.isSome)
      && decide ([f].length + ([] : List Keyword).length + (if ([] : List Keyword).isEmpty then 0 else 1) < 30)) = true := by rfl)
    (hline : (apos2.endLine == cpos2.line) = true := by rfl) (hst : starEach [f] X.env = (false, eval f X.env) :: starEach [] X.env := by rfl) (hpl : (backTo cpos2 (starEach [] X.env)).any (·.1) = false := by rfl)
    (hs : swapsWith (.Call (.Attribute (.Call (.Attribute o "setdefault" apos) [e, .List [] pos2] [] cpos) "append" apos2) [f] [] cpos2) none pos.line X.env = pure false := by rfl) :
    WSs X (.Expr (.Call (.Attribute (.Call (.Attribute o "setdefault" apos) [e, .List [] pos2] [] cpos) "append" apos2) [f] [] cpos2) pos :: rest) D' σ H := by
  refine s_expr (.by (pe_bm PySem.F.plainAttrs_list PySem.F.slot_list_append PySem.F.type_list_append mt_append (pe_dsetdT G.hu pe_W pe_W (pe_lst pa_nil) m) (pa_cons pe_W pa_nil hst) hbase hfew hline hst hpl) ?_) hs
  refine (ho _).run σ H _ E.en fun v H1 s1 ev => ?_
  obtain rfl : v = .ref l := ev
  obtain ⟨vs1, e1, _⟩ := hN.d.same s1
  refine ⟨l, rfl, .inr ⟨_, .inl e1⟩, ?_⟩
  refine (hk _).run σ H1 _ (E.en.same s1) fun y H2 s2 ry => ?_
  refine ⟨Nat.zero_le _, fun pn hpn => ?_⟩
  have s12 := s1.trans s2
  obtain ⟨vs2, e2, r2⟩ := hN.d.same s12
  obtain ⟨b, rfl, hb⟩ := keyE_wire.rep ry
  have hpl' : l ≠ pn := by intro z; rw [z, hpn] at e2; cases e2
  have hpb : b ≠ pn := by intro z; rw [z, hpn] at hb; cases hb
  have hl2 := r2.length
  refine ⟨_, keWire x, b, by rw [upd_ne hpl']; exact e2, rfl, by rw [upd_ne hpb]; exact hb, ?_, fun v hv' => ?_, fun hn => ?_⟩
  · rw [List.length_zip, List.length_map, List.length_map]; exact Nat.lt_of_le_of_lt (Nat.min_le_left _ _) (Nat.lt_of_lt_of_le hz (by decide))
  · obtain ⟨g1, g2⟩ := get_zip (H := H2) keyE_wire x r2
    cases hx : getM mN x with
    | none =>
      have : getM (mN.map fun x => (x.1, D.obj (rf x.2))) x = none := by
        cases h : getM (mN.map fun x => (x.1, D.obj (rf x.2))) x with
        | none => rfl
        | some d =>
          have h1 := getM_some h
          obtain ⟨z, hz1, hz2⟩ := List.mem_map.mp h1
          cases hz2
          exact absurd (List.mem_map_of_mem hz1) (getM_none hx)
      rw [this, hv'] at g2; cases g2
    | some a =>
      obtain ⟨v', e', rv⟩ := g1 _ (getM_near hx)
      rw [hv'] at e'; cases e'
      cases rv with
      | obj pv =>
      obtain rfl : v = .ref a := pv
      have hmem := getM_some hx
      have s3 : Same H (upd H2 pn (.lst [])) := s12.trans (same_upd hpn)
      have hla := hN.l _ hmem
      obtain ⟨us, h3, r3⟩ := hla.same s3
      refine ⟨Or.inl ⟨rfl, us, SqL.of h3⟩, ?_⟩
      refine (hv _).run σ _ _ (E.en.same s3) fun y H4 s4 p4 => ?_
      obtain ⟨us', h4, r4⟩ := hla.same (s3.trans s4)
      have hz' : us'.length < sizeLine := by rw [← r4.length, List.length_map]; exact Nat.lt_of_lt_of_le hlen (by decide)
      refine ⟨a, us', y, rfl, rfl, h4, hz', ?_⟩
      have le4 : Le H4 (upd H4 a (.lst (us' ++ [y]))) := Le.upd h4 rfl
      have sb4 : SameBut a H4 (upd H4 a (.lst (us' ++ [y]))) := .upd
      have N4 := hN.same (s3.trans s4)
      have hal : l ≠ a := by intro z; obtain ⟨_, e, _⟩ := N4.d; rw [z, h4] at e; cases e
      refine q _ mN ⟨?_, fun z hz1 => ?_, hN.k, hN.v, hN.f, fun z hz1 => ?_, fun b o hb => ?_, hN.fa⟩ (fun y => ⟨fun h => .inl h, fun h => h.elim id fun h => by rw [h]; exact List.mem_map_of_mem hmem⟩) (by omega) ((Le.of (s3.trans s4)).trans le4) ((E.same (s3.trans s4)).le le4)
      · obtain ⟨vs, e, r⟩ := N4.d
        exact ⟨vs, sb4 _ _ hal e, r.le le4⟩
      · by_cases hzx : z.1 = x
        · have : z.2 = a := by
            have := map_inj hN.k hz1 hmem hzx
            rw [this]
          rw [this]
          show LstAt _ a ((if z.1 = x then adj x ++ [r] else adj z.1).map dWire)
          rw [if_pos hzx, List.map_append]
          exact ⟨_, upd_same, (r4.append (.cons p4 .nil)).le le4⟩
        · show LstAt _ z.2 ((if z.1 = x then adj x ++ [r] else adj z.1).map dWire)
          rw [if_neg hzx]
          have hne : z.2 ≠ a := fun e => hzx (by
            have := map_inj hN.v hz1 hmem e
            rw [this])
          exact (N4.l z hz1).but sb4 h4 rfl hne
      · show (if z = x then adj x ++ [r] else adj z) = []
        rw [if_neg (fun e => hz1 (by rw [e]; exact List.mem_map_of_mem hmem))]
        exact hN.n z hz1
      · have hba : b ≠ a := by intro z; rw [z, hN.f _ hmem] at hb; cases hb
        exact sb4 _ _ hba (N4.s _ _ hb)
  · have hx : getM (mN.map fun x => (x.1, D.obj (rf x.2))) x = none := by
      obtain ⟨g1, g2⟩ := get_zip (H := H2) keyE_wire x r2
      rw [hn] at g2
      cases h : getM (mN.map fun x => (x.1, D.obj (rf x.2))) x with
      | none => rfl
      | some d => rw [h] at g2; cases g2
    have hxn := getM_near_none hx
    have hsn : Same H2 (upd H2 pn (.lst [])) := same_upd hpn
    obtain ⟨us, eu, ru⟩ := put_zip (H := upd H2 pn (.lst [])) keyE_wire x (d := .obj (rf pn)) (v := .ref pn) (.obj rfl) (r2.le (.of hsn))
    rw [eu, putM_near hxn]
    rw [putM_near hxn] at ru
    generalize hH4 : upd (upd H2 pn (.lst [])) l (.dT (((mN ++ [(x, pn)]).map (fun x => (x.1, D.obj (rf x.2)))).map (fun e => keWire e.1) |>.zip us)) = H4
    have hD4 : H4 l = some (.dT (((mN ++ [(x, pn)]).map (fun x => (x.1, D.obj (rf x.2)))).map (fun e => keWire e.1) |>.zip us)) := by rw [← hH4]; exact upd_same
    have hp4 : H4 pn = some (.lst []) := by rw [← hH4, upd_ne hpl'.symm]; exact upd_same
    have sb4 : SameBut l H2 H4 := fun a o na ha => by rw [← hH4, upd_ne na]; exact hsn a o ha
    have le4 : Le H2 H4 := sb4.le e2 rfl
    have le34 : Le (upd H2 pn (.lst [])) H4 := by
      rw [← hH4]
      exact Le.upd (by rw [upd_ne hpl']; exact e2) rfl
    refine ⟨Or.inl ⟨rfl, [], SqL.of hp4⟩, ?_⟩
    have E4 := (E.same s12).le le4
    refine (hv _).run σ H4 _ E4.en fun y H5 s5 p5 => ?_
    refine ⟨pn, [], y, rfl, rfl, s5 _ _ hp4, by decide, ?_⟩
    have h5 := s5 _ _ hp4
    have le5 : Le H5 (upd H5 pn (.lst ([] ++ [y]))) := Le.upd h5 rfl
    have sb5 : SameBut pn H5 (upd H5 pn (.lst ([] ++ [y]))) := .upd
    have hf0 : H0 pn = none := by
      cases h : H0 pn with
      | none => rfl
      | some o => have := s12 _ _ (hN.s _ _ h); rw [hpn] at this; cases this
    have hnp : ∀ z ∈ mN, z.2 ≠ pn := fun z hz1 e => by
      obtain ⟨_, e1, _⟩ := (hN.l z hz1).same s12
      rw [e, hpn] at e1; cases e1
    refine q _ (mN ++ [(x, pn)]) ⟨?_, fun z hz1 => ?_, ?_, ?_, fun z hz1 => ?_, fun z hz1 => ?_, fun b o hb => ?_, hN.fa⟩ (fun y => ?_) (by rw [List.length_append]; exact Nat.le_refl _) ((Le.of s12).trans (le4.trans ((Le.of s5).trans le5))) ((E4.same s5).le le5)
    · exact ⟨us, sb5 _ _ hpl' (s5 _ _ hD4), ru.le (le34.trans ((Le.of s5).trans le5))⟩
    · show LstAt _ z.2 ((if z.1 = x then adj x ++ [r] else adj z.1).map dWire)
      rcases List.mem_append.mp hz1 with h | h
      · rw [if_neg (fun e : z.1 = x => hxn (e ▸ List.mem_map_of_mem h))]
        obtain ⟨ws, e1, r1⟩ := (hN.l z h).same s12
        refine ⟨ws, sb5 _ _ (hnp z h) (s5 _ _ (sb4 _ _ (fun e => ?_) e1)), r1.le (le4.trans ((Le.of s5).trans le5))⟩
        rw [e, e2] at e1; cases e1
      · rw [List.mem_singleton.mp h, if_pos rfl, hN.n x hxn]
        exact ⟨_, upd_same, (RepL.cons p5 .nil).le le5⟩
    · rw [List.map_append, List.nodup_append]; exact ⟨hN.k, by simp, fun a ha b hb e => hxn (by rw [List.map_singleton, List.mem_singleton] at hb; rw [show a = x from e.trans hb] at ha; exact ha)⟩
    · rw [List.map_append, List.nodup_append]; refine ⟨hN.v, by simp, fun a ha b hb e => ?_⟩
      obtain ⟨z, hz1, hz2⟩ := List.mem_map.mp ha
      rw [List.map_singleton, List.mem_singleton] at hb
      exact hnp z hz1 (by rw [hz2, e, hb])
    · rcases List.mem_append.mp hz1 with h | h
      · exact hN.f z h
      · rw [List.mem_singleton.mp h]; exact hf0
    · rw [List.map_append, List.mem_append, not_or] at hz1
      show (if z = x then adj x ++ [r] else adj z) = []
      rw [if_neg (fun e => hz1.2 (by rw [e]; simp))]
      exact hN.n z hz1.1
    · have hbl : b ≠ l := by intro z; rw [z, hN.fa] at hb; cases hb
      have hbp : b ≠ pn := by intro z; rw [z, hf0] at hb; cases hb
      exact sb5 _ _ hbp (s5 _ _ (sb4 _ _ hbl (s12 _ _ (hN.s _ _ hb))))
    · rw [List.map_append, List.mem_append]; simp
end
end K31
namespace K31
open L2 PySem PySem.Spec PyProof.Rows
def adjOf (es : List Edge) (l : Wire) : List Wire := (es.filter fun e => decide (leftE e = l)).map rightE
theorem adjOf_snoc (es : List Edge) (e : Edge) : adjOf (es ++ [e]) = adjAdd (adjOf es) (leftE e) (rightE e) := by
  funext y
  unfold adjOf adjAdd
  rw [List.filter_append, List.map_append]
  by_cases h : y = leftE e
  · subst h
    rw [if_pos rfl, List.filter_cons_of_pos (by simp)]; rfl
  · rw [if_neg h, List.filter_cons_of_neg (by simp [Ne.symm h])]
    simp
theorem adjOf_mem {es : List Edge} {l r : Wire} : r ∈ adjOf es l ↔ (l, r) ∈ es.map pEdge := by
  unfold adjOf
  rw [List.mem_map, List.mem_map]
  constructor
  · rintro ⟨e, h, rfl⟩
    obtain ⟨h1, h2⟩ := List.mem_filter.mp h
    exact ⟨e, h1, by rw [← of_decide_eq_true h2]; rfl⟩
  · rintro ⟨e, h, h2⟩
    cases h2
    exact ⟨e, List.mem_filter.mpr ⟨h, by simp⟩, rfl⟩
def spNeigh : Sp := fun vs H Q _ => ∃ (a : Addr) (es : List Edge), vs = [.ref a] ∧ LstAt H a (es.map dEdge) ∧ (none, none) ∉ es ∧ es.length ≤ 1200 ∧
  ∀ l mN H', NearI H H' l mN (adjOf es) → (∀ y, y ∈ mN.map Prod.fst ↔ ∃ e ∈ es, y = leftE e) → mN.length ≤ es.length → Q (.ref l) H'
section
variable {P : Program} {w : World}
variable {K : PySem.W.Frag} {mg : Str → Option Value} {base : Heap}
theorem ok_neighbours (T : Tx K mg) : DefOk P w K mg base 2 "neighbours" spNeigh := by
  refine T.d_neighbours (fun vs H Q E ⟨a, es, ev, _⟩ => by subst ev; rfl) fun X vs H Q E ⟨f, cdv, A, outer, s, e⟩ G ⟨a, es, ev, ha, hno, hlen, q⟩ => ?_
  subst e ev
  have E := env_p (N := N_neighbours) (Ps' := [rf a]) (vs := [.ref a]) (H := H) (.cons rfl .nil)
  refine s_setDT 1 keWire G E fun l σ1 H1 hl s1 hD1 E1 => ?_
  have hal : a ≠ l := by intro z; obtain ⟨_, e, _⟩ := ha; rw [z, hl] at e; cases e
  refine s_forA G .never E1 (srcA_list (ed_var 0 rfl) (ha.same s1)) fun H2 s2 E2 => ?_
  have s12 := s1.trans s2
  refine ⟨fun i σ' H' => Le H2 H' ∧ Env [some (rf a), some (rf l), none] σ' H' ∧ ∃ mN, NearI H H' l mN (adjOf (es.take i)) ∧ (∀ y, y ∈ mN.map Prod.fst ↔ ∃ e ∈ es.take i, y = leftE e) ∧ mN.length ≤ i, ⟨Le.refl _, E2, [], ?_, fun y => ⟨fun h => (by cases h), fun ⟨e, h, _⟩ => (by cases h)⟩, Nat.le_refl _⟩, fun i σ' H' ⟨le, _, mN, hN, _⟩ => ⟨le, ?_⟩, fun i d v σ' H' H'' hd ⟨le, E', mN, hN, hk, hml⟩ sab rv => ?_, fun σ' H' ⟨le, E', mN, hN, hk, hml⟩ => ?_⟩
  · exact ⟨hD1.same s2, fun x hx => (by cases hx), List.nodup_nil, List.nodup_nil, fun x hx => (by cases hx), fun x hx => rfl, s12, hl⟩
  · obtain ⟨us, e, _⟩ := ha
    rw [hN.s _ _ e, s12 _ _ e]
  · obtain ⟨e, he, rfl⟩ := get_map hd
    have hem := List.mem_of_getElem? he
    have hne : e ≠ (none, none) := fun z => hno (z ▸ hem)
    refine g_name 2 G ?_
    have E3 := (E'.same sab).set 2 (P := R (dEdge e)) rv
    have hi : i < es.length := by
      rcases Nat.lt_or_ge i es.length with h | h
      · exact h
      · rw [List.getElem?_eq_none h] at he; cases he
    have hal' : (adjOf (es.take i) (leftE e)).length ≤ 1200 := by
      unfold adjOf
      rw [List.length_map]
      refine Nat.le_trans (List.length_filter_le _ _) ?_
      rw [List.length_take]; omega
    refine s_setdApp (x := leftE e) (r := rightE e) G E3 (hN.same sab) (by omega) (by omega) (fun Hz => ed_var 1 rfl) (fun Hz => er_call (ok_left_end T) (G.mono (by decide)) e hne (ad_one (er_var 2 rfl))) (fun Hz => er_call (ok_right_end T) (G.mono (by decide)) e hne (ad_one (er_var 2 rfl))) fun H4 mN' hN4 hk4 hl4 le4 E4 => s_nil ⟨?_, E4.fg (.k (.k (.d .nil))), mN', ?_, fun y => ?_, by omega⟩
    · exact (le.trans (.of sab)).trans le4
    · rw [take_snoc he, adjOf_snoc]; exact hN4
    · rw [hk4, hk, take_snoc he]
      constructor
      · rintro (⟨e', h, rfl⟩ | rfl)
        · exact ⟨e', List.mem_append_left _ h, rfl⟩
        · exact ⟨e, List.mem_append_right _ (List.mem_singleton.mpr rfl), rfl⟩
      · rintro ⟨e', h, rfl⟩; rcases List.mem_append.mp h with h | h
        · exact .inl ⟨e', h, rfl⟩
        · rw [List.mem_singleton.mp h]; exact .inr rfl
  · have hl' : (es.map dEdge).length = es.length := List.length_map ..
    rw [hl', List.take_length] at hN
    rw [hl', List.take_length] at hk
    rw [hl'] at hml
    refine s_ret E' (ed_var 1 rfl) fun v H4 s4 ev => ?_
    obtain rfl : v = .ref l := ev
    exact q l mN H4 (hN.same s4) hk hml
end
end K31
namespace K31
open L2 PySem PySem.Spec PyProof.Rows
def U20 : List Wire := ((List.range 10).map fun i : Nat => (sCol, (i : Int))) ++ ((List.range 10).map fun i : Nat => (sLone, (i : Int)))
theorem U20_len : U20.length = 20 := by simp [U20]
theorem sm_mem {x : Int} (h : SmI x) (s : Str) : (s, x) ∈ ((List.range 10).map fun i : Nat => (s, (i : Int))) := by
  obtain ⟨h0, h1⟩ := h
  exact List.mem_map.mpr ⟨x.toNat, List.mem_range.mpr (by omega), by rw [show ((x.toNat : Nat) : Int) = x by omega]⟩
theorem right_U {es : List Edge} (h : EdgesOk es) {e : Edge} (he : e ∈ es) : rightE e ∈ U20 := by
  obtain ⟨a, b⟩ := e
  cases b with
  | some c => exact List.mem_append_left _ (sm_mem (h.c _ he c rfl) sCol)
  | none =>
    cases a with
    | none => exact absurd he h.no
    | some r => exact List.mem_append_right _ (sm_mem (h.r _ he r rfl) sLone)
/-- edges as the program has them -/
structure EdgesIn (es : List Edge) : Prop where
  len : es.length ≤ 1200
  r : ∀ e ∈ es, ∀ x, e.1 = some x → SmI x
  c : ∀ e ∈ es, ∀ x, e.2 = some x → SmI x
theorem EdgesIn.ok {es : List Edge} (h : EdgesIn es) (n : (none, none) ∉ es) : EdgesOk es := ⟨n, h.len, h.r, h.c⟩
noncomputable def fewD (es : List Edge) : D := if (none, none) ∈ es then .non else .int (fewN es : Nat)
def PNear (es : List Edge) : Hp → V → Prop := fun H v => ∃ l mN H0, v = .ref l ∧ NearI H0 H l mN (adjOf es) ∧ (∀ y, y ∈ mN.map Prod.fst ↔ ∃ e ∈ es, y = leftE e)
def PMat (n : Nat) : Hp → V → Prop := fun H v => ∃ l m, v = .ref l ∧ DictT keWire H l (LT m) ∧ m.length = n ∧ m.length ≤ 1000
theorem stb_near {es : List Edge} : Stb (PNear es) := ⟨fun s ⟨l, mN, H0, e, h, k⟩ => ⟨l, mN, H0, e, h.same s, k⟩⟩
theorem stb_mat {n : Nat} : Stb (PMat n) := ⟨fun s ⟨l, m, e, h, k⟩ => ⟨l, m, e, h.same s, k⟩⟩
def spFewP : Sp := fun vs H Q _ => ∃ (a : Addr) (es : List Edge), vs = [.ref a] ∧ LstAt H a (es.map dEdge) ∧ EdgesIn es ∧ ∀ v H', Same H H' → Rep H' (fewD es) v → Q v H'
section
variable {X : Cx} {Hz : Hp} {ρ : Rho} {e : Expr} {pos p : Pos}
theorem er_lenM {n : Nat} (hm : X.mg "len" = none) (h : ED X Hz ρ e (PMat n)) (hg : Gl X "len" := by rfl) (hs : starEach [e] X.env = (false, eval e X.env) :: starEach [] X.env := by rfl) (hpl : (backTo pos (starEach [] X.env)).any (·.1) = false := by rfl) : ER X Hz ρ (.Call (.Name "len" p) [e] [] pos) (.int n) :=
  ed_cb call_len_dT hm (by decide +kernel) (ap_cons stb_mat h ap_nil hs) (fun vs H r Q q => by
    obtain ⟨v, _, rfl, ⟨l, m, rfl, ⟨us, hd, hr⟩, hn, _⟩, rfl⟩ := r
    refine ⟨l, _, rfl, hd, q _ H (Same.refl H) ?_⟩
    have h1 := hr.length
    rw [List.length_map] at h1
    have h2 : (((LT m).map fun e => keWire e.1).zip us).length = n := by
      rw [List.length_zip, List.length_map, ← h1, Nat.min_self, List.length_map]; exact hn
    rw [h2]
    exact .int _) hg (by decide) (by decide) hs hpl
end
section
variable {P : Program} {w : World}
variable {K : PySem.W.Frag} {mg : Str → Option Value} {base : Heap}
theorem ok_fewestP (T : Tx K mg) : DefOk P w K mg base 23 "fewest_of" spFewP := by
  refine T.d_fewest_of (fun vs H Q E ⟨a, es, ev, _⟩ => by subst ev; rfl) fun X vs H Q E ⟨f, cdv, A, outer, s, e⟩ G ⟨a, es, ev, ha, hin, q⟩ => ?_
  subst e ev
  have E := env_p (N := N_fewest_of) (Ps' := [rf a]) (vs := [.ref a]) (H := H) (.cons rfl .nil)
  refine s_ret E (P := fun H v => Rep H (fewD es) v) (ed_if (k := decide ((none, none) ∈ es)) (td_val (ed_callS (A := Ps [(rf a).p]) (ok_is_barred T) (G.mono (by decide)) (ap_cons (stb_PP (rf a)) (ed_var 0 rfl) ap_nil) fun vs H1 s1 h Q q => ?_)) (fun hk => ?_) fun hk => ?_) fun v H' s r => q v H' s r
  · obtain ⟨v, _, rfl, ev, rfl⟩ := h
    obtain rfl : v = .ref a := ev
    exact ⟨a, es, rfl, ha.same s1, fun H' s' => q _ H' s' (.bl _)⟩
  · rw [decide_eq_true_eq] at hk
    unfold fewD
    rw [if_pos hk]
    exact er_non
  · rw [decide_eq_false_iff_not] at hk
    have hok := hin.ok hk
    unfold fewD
    rw [if_neg hk, ← few_eq hk]
    refine er_lenM T.n_len (ed_callS (A := Ps [PNear es]) (ok_matched T 20) (G.mono (by decide)) (ap_cons stb_near (ed_callS (A := Ps [(rf a).p]) (ok_neighbours T) (G.mono (by decide)) (ap_cons (stb_PP (rf a)) (ed_var 0 rfl) ap_nil) fun vs H1 s1 h Q q => ?_) ap_nil) fun vs H1 s1 h Q q => ?_)
    · obtain ⟨v, _, rfl, ev, rfl⟩ := h
      obtain rfl : v = .ref a := ev
      exact ⟨a, es, rfl, ha.same s1, hk, hin.len, fun l mN H' hN hks hl => q _ H' hN.s ⟨l, mN, H1, rfl, hN, hks⟩⟩
    · obtain ⟨v, _, rfl, ⟨l, mN, H0, rfl, hN, hks⟩, rfl⟩ := h
      refine ⟨l, mN, adjOf es, U20, es.map pEdge, rfl, ⟨hN.d.r, hN.l⟩, hN.d, ⟨hN.k, fun x hx r hr => ?_, by rw [U20_len]; decide, by decide, fun l r => ?_⟩, fun lefts m H' s' hD hm hl => q _ H' s' ⟨lefts, m, rfl, hD, hm, hl⟩⟩
      · have := adjOf_mem.mp hr
        obtain ⟨e, he, e2⟩ := List.mem_map.mp this
        have : r = rightE e := by
          have := congrArg Prod.snd e2
          exact this.symm
        rw [this]
        exact right_U hok he
      · rw [← adjOf_mem]
        refine ⟨fun h => ⟨?_, h⟩, fun h => h.2⟩
        have := adjOf_mem.mp h
        obtain ⟨e, he, e2⟩ := List.mem_map.mp this
        exact (hks l).mpr ⟨e, he, (congrArg Prod.fst e2).symm⟩
end
end K31
namespace K31
open L2 PySem PySem.Spec PyProof.Rows
structure Ty (K : PySem.W.Frag) (mg : Str → Option Value) : Prop where
  tx : Tx K mg
  ex : exOk K = true
  g1 : fnAt K (gAt K "Board" "rows") = FnV3 s_Board_rows "rows" "Board.rows"
  g2 : fnAt K (gAt K "Picture" "dots") = FnV3 s_Picture_dots "dots" "Picture.dots"
section
variable {P : Program} {w : World}
variable {K : PySem.W.Frag} {mg : Str → Option Value} {base : Heap}
theorem Ty.xfa (T : Ty K mg) {f : He.Fa} (h : f ∈ exFa) : f.ok K = true := List.all_eq_true.mp (He.ba T.ex).1 f h
theorem Ty.xsl (T : Ty K mg) {z : Str × Str × Nat} (h : z ∈ exSl) : slotB K z = true := List.all_eq_true.mp (He.ba (He.ba T.ex).2).1 z h
theorem Ty.xisi (T : Ty K mg) {C : Str} (h : C ∈ (["Board", "Picture", "Film"] : List Str)) : isiB K C = true := List.all_eq_true.mp (He.ba (He.ba (He.ba T.ex).2).2).1 C h
theorem Ty.xscl (T : Ty K mg) {C : Str} (h : C ∈ (["Living", "Account"] : List Str)) : sclB K C = true := List.all_eq_true.mp (He.ba (He.ba (He.ba (He.ba T.ex).2).2).2).1 C h
theorem Ty.xshr (T : Ty K mg) : shrB K "Film" = true := (He.ba (He.ba (He.ba (He.ba (He.ba T.ex).2).2).2).2).1
theorem Ty.xp1 (T : Ty K mg) : propB K "Board" "rows" "Board.rows" = true := (He.ba (He.ba (He.ba (He.ba (He.ba (He.ba T.ex).2).2).2).2).2).1
theorem Ty.xp2 (T : Ty K mg) : propB K "Picture" "dots" "Picture.dots" = true := (He.ba (He.ba (He.ba (He.ba (He.ba (He.ba T.ex).2).2).2).2).2).2
/-- isinstance of own classes -/
structure Isi (K : PySem.W.Frag) (C : Addr) : Prop where
  ha : (PySem.W.findIn K (.ref C) "__class__" = some (some (.builtin "object.__class__")))
  hn : (PySem.W.specialIn K (.builtin "object.__class__") "__get__" = some (some (.builtin "getset_descriptor.__get__")))
  ht : (PySem.W.takesIn K (.builtin "object.__class__") = some true)
  hm : (PySem.W.mroIn K C (.type "object") = some true)
  hk : PySem.W.kitOne K (.ref C) (.ref C) = some true
theorem isi_of {C : Str} (h : isiB K C = true) : Isi K (He.ga K C) := by
  obtain ⟨h1, h⟩ := He.ba h
  obtain ⟨h2, h⟩ := He.ba h
  obtain ⟨h3, h⟩ := He.ba h
  obtain ⟨h4, h5⟩ := He.ba h
  exact ⟨He.eqO_ok h1, He.eqO_ok h2, of_decide_eq_true h3, of_decide_eq_true h4, of_decide_eq_true h5⟩
theorem scl_of {C : Str} (h : sclB K C = true) : SlX.SCls K (He.ga K C) := by
  obtain ⟨h1, h⟩ := He.ba h
  obtain ⟨h2, h⟩ := He.ba h
  obtain ⟨h3, h4⟩ := He.ba h
  exact ⟨h1, h2, h3, He.eqO_ok h4⟩
theorem slot_of {C f : Str} {i : Nat} (h : slotB K (C, f, i) = true) : SlX.Slot1 K (He.ga K C) f (He.ma K (He.ga K C) f) i := by
  obtain ⟨h1, h⟩ := He.ba h
  obtain ⟨h2, h⟩ := He.ba h
  obtain ⟨h3, h⟩ := He.ba h
  obtain ⟨h4, h⟩ := He.ba h
  obtain ⟨h5, h6⟩ := He.ba h
  exact ⟨He.eqO_ok h1, He.eqO_ok h2, of_decide_eq_true h3, of_decide_eq_true h4, of_decide_eq_true h5, of_decide_eq_true h6⟩
theorem prop_of {C f fld q : Str} {st : Stmt} {N : List Str} {k : Nat} {p1 p2 p3 : Pos} (h : propB K C f q = true) (e : fnAt K (gAt K C f) = FnV3 st f q) (S : FnScope N ["self"] (defScope st)) (hN : N[0]? = some ("self" : Str))
    (hb : defBody st = [.Return (some (.Attribute (.Name "self" p1) fld p2)) p3]) (c : Cls K (He.ga K C)) (n : NoAttr K (He.ga K C) fld)
    (bind : ∀ (kV doc pm : Value) (an : Option Addr) (cdv ct : Value) (us : List Value), us.length = 1 → bindArgs (PySem.W.fnOf f q (defArgs st) (defBody st) (defScope st) .none kV doc pm an cdv ct) ⟨us, []⟩ = pure ((["self"] : List Str).zip us)) :
    PropOf K (He.ga K C) f (He.ma K (He.ga K C) f) (gAt K C f) ∧ ∃ fd, FnOk P w K mg base CX0 (k + 1) (gAt K C f) fd ["self"] (getSp (He.ga K C) fld) ∧ Binds K fd ["self"] [] := by
  obtain ⟨h1, h⟩ := He.ba h
  obtain ⟨h2, h⟩ := He.ba h
  obtain ⟨h3, h⟩ := He.ba h
  obtain ⟨h4, h5⟩ := He.ba h
  refine ⟨⟨He.eqO_ok h1, He.eqO_ok h2, of_decide_eq_true h3, ?_⟩, ?_⟩
  · unfold gAt
    cases hr : PySem.W.recIn K (He.ma K (He.ga K C) f) "property" with
    | none => rw [hr] at h4; cases h4
    | some l =>
      rw [hr] at h4
      cases l with
      | nil => cases h4
      | cons v r =>
        cases v with
        | ref g => exact ⟨r, rfl⟩
        | _ => cases h4
  · generalize gAt K C f = g at e h5 ⊢
    unfold fnAt at e
    cases hl : K.lookup g with
    | none => rw [hl] at h5; cases h5
    | some o =>
      obtain ⟨oc, od, dt, osl⟩ := o
      rw [hl] at e h5
      cases dt with
      | func fd =>
        obtain ⟨n1, n2, n3, n4, n5, n6, n7, n8, n9, n10, n11, n12, n13, n14, n15⟩ := fd; obtain ⟨h6, h7⟩ := He.ba h5
        have e2 : (some (n1, n2, n3, n4, n5, n6, n7, n15) : He.FnW) = some (f, q, defArgs st, .stmts (defBody st), defScope st, mainGlobals, [], builtinsNs) := e
        simp only [Option.some.injEq, Prod.mk.injEq] at e2; obtain ⟨z1, z2, z3, z4, z5, z6, z7, z8⟩ := e2
        subst z1 z2 z3 z4 z5 z6 z7 z8
        have h8 : n8 = .none := by
          cases n8 with
          | none => rfl
          | _ => cases h7
        subst h8
        exact ⟨_, fn_getter (k := k) hl h6 S hN hb c n, .all (bind _ _ _ _ _ _)⟩
      | _ => cases h5
theorem Ty.cls (T : Ty K mg) {x : Str} (i : Nat) (h : fa[i]? = some (.cls x)) : Cls K (He.ga K x) := He.cls_ok (T.tx.says.fact i h)
end
end K31
namespace K31
open L2 PySem PySem.Spec PyProof.Rows
/-- an instance of the class at C, its field f -/
def Fld (C : Addr) (f : Str) (P : Hp → V → Prop) : Hp → V → Prop := fun H v => ∃ a dx fs u, v = .ref a ∧ H a = some (.ins C dx fs) ∧ fs.lookup f = some u ∧ P H u
def Ins (C : Addr) (fs : List Str) : Hp → V → Prop := fun H v => ∃ a dx us, v = .ref a ∧ H a = some (.ins C dx us) ∧ us.map (·.1) = fs
theorem lookup_no {us : List (Str × V)} {m : Str} (h : (us.map (·.1)).contains m = false) : us.lookup m = none := by
  induction us with
  | nil => rfl
  | cons e us ih =>
    obtain ⟨k, v⟩ := e
    rw [List.map_cons, List.contains_cons, Bool.or_eq_false_iff] at h
    rw [List.lookup_cons, h.1]
    exact ih h.2
section
variable {X : Cx} {Hz : Hp} {ρ : Rho} {o e a b : Expr} {es : List Expr} {pos p apos : Pos} {k : Nat} {C g : Addr} {f m : Str} {sp : Sp} {P P' PO : Hp → V → Prop}
theorem ed_fld (c : Cls X.K C) (n : NoAttr X.K C f) (ho : ED X Hz ρ o (Fld C f P)) (hb : attributeBase o f X.env (eval o X.env) = eval o X.env := by rfl) : ED X Hz ρ (.Attribute o f pos) P := by
  refine .by (pe_fld pe_W hb) fun σ H Q E q => ?_
  refine ho.run σ H _ E fun v H1 s1 ⟨a, dx, fs, u, ev, h1, l, pu⟩ => ?_
  exact ⟨a, C, dx, fs, u, ev, h1, c, n, l, q u H1 s1 pu⟩
/-- a field of what stands in Hz -/
theorem ed_fldAt {a : Addr} {dx : Addr} {fs : List (Str × V)} {u : V} (c : Cls X.K C) (n : NoAttr X.K C f) (h : Hz a = some (.ins C dx fs)) (l : fs.lookup f = some u) (ho : ED X Hz ρ o (rf a).p) (hb : attributeBase o f X.env (eval o X.env) = eval o X.env := by rfl) : ED X Hz ρ (.Attribute o f pos) (fun _ v => v = u) := by
  refine .by (pe_fld pe_W hb) fun σ H Q E q => ?_
  refine ho.run σ H _ E fun v H1 s1 ev => ?_
  exact ⟨a, C, dx, fs, u, ev, (E.s0.trans s1) _ _ h, c, n, l, q u H1 s1 rfl⟩
theorem er_fldAt {a : Addr} {dx : Addr} {fs : List (Str × V)} {u : V} {d : D} (c : Cls X.K C) (n : NoAttr X.K C f) (h : Hz a = some (.ins C dx fs)) (l : fs.lookup f = some u) (r : Rep Hz d u) (ho : ED X Hz ρ o (rf a).p) (hb : attributeBase o f X.env (eval o X.env) = eval o X.env := by rfl) : ER X Hz ρ (.Attribute o f pos) d := by
  refine ⟨fun σ H Q E q => (ed_fldAt c n h l ho hb).run σ H Q E fun v H1 s1 ev => ?_⟩
  subst ev
  exact q _ H1 s1 (r.le (.of (E.s0.trans s1)))
theorem ed_prop {fld : Str} {p' : Addr} {fd : FuncData} (c : Cls X.K C) (hp : PropOf X.K C f p' g) (F : FnOk X.prog X.w X.K X.mg X.base CX0 k g fd ["self"] (getSp C fld)) (hk : Binds X.K fd ["self"] []) (G : GX X (k + 1)) (ho : ED X Hz ρ o (Fld C fld P)) (hb : attributeBase o f X.env (eval o X.env) = eval o X.env := by rfl) : ED X Hz ρ (.Attribute o f pos) P := by
  refine .by (pe_prop (E := E0) pe_W c hp F G.room hk .nil pass0 hb) fun σ H Q E q => ?_
  refine ho.run σ H _ E fun v H1 s1 ⟨a, dx, fs, u, ev, h1, l, pu⟩ => ?_
  exact ⟨a, dx, fs, ev, h1, a, dx, fs, u, rfl, h1, l, q u H1 s1 pu⟩
/-! ### two places, the call may lay things -/
theorem er_cmp2 {op : CmpOp} {r : R2} {k : Bool} (ho : OpR X (compareOp op) r) (hm : behindInMarks op b = false) (sP : Stb P) (ha : ED X Hz ρ a P) (hb : ED X Hz ρ b P')
    (h : ∀ x y H, Same Hz H → P H x → P' H y → ∀ Q : VK, (∀ H', Same H H' → Q (.bl k) H') → r x y H Q) : ER X Hz ρ (.Compare a [op] [b] pos) (.bl k) := by
  refine .by (pe_cmpR ho pe_W pe_W hm) fun σ H Q E q => ?_
  refine ha.run σ H _ E fun x H1 s1 p1 => ?_
  refine hb.run σ H1 _ (E.same s1) fun y H2 s2 p2 => ?_
  exact h x y H2 (E.s0.trans (s1.trans s2)) (sP.st s2 p1) p2 _ fun H3 s3 => q _ H3 ((s1.trans s2).trans s3) (.bl k)
/-- x in o, by an own __contains__ -/
def rInO (C : Addr) (sp : Sp) : R2 := fun x y H Q => ∃ a dx fs, y = .ref a ∧ H a = some (.ins C dx fs) ∧ sp [y, x] H (fun z H' => ∃ b, z = .bl b ∧ Q (.bl b) H') E0
theorem op_inO (hs : PySem.W.findIn X.K (.ref C) "__contains__" = some (some (.ref g))) (hf : PySem.W.isFn X.K (.ref g) = true) (F : FnR X.prog X.w X.K X.mg X.base CX0 k g sp) (hr : Room k X.A) : OpR X (compareOp .In) (rInO C sp) := by
  intro pins s σ H x y v u Q I rx ry h; obtain ⟨a, dx, fs, rfl, ha, q⟩ := h
  cases ry
  obtain ⟨mA, J, _⟩ := ins_get I.hok ha; obtain ⟨od, J, _⟩ := J.look
  obtain ⟨m, hF⟩ := I.fr
  refine PySem.W.in_K hF I.ok.mod.kin J hs hf (wpAny_mono (wpAny_call (run_fnR (us := [.ref a, v]) (vs := [.ref a, x]) F hr pass0 I (.cons rfl (.cons rx .nil)) q)) (fun r s' hq => ?_) fun _ _ z => z)
  obtain ⟨z, H', I', rz, b, ez, qq⟩ := hq
  subst ez
  cases rz
  exact wpAny_truthy_bool ⟨.bl b, H', I', rfl, qq⟩
def rNotInO (C : Addr) (sp : Sp) : R2 := fun x y H Q => ∃ a dx fs, y = .ref a ∧ H a = some (.ins C dx fs) ∧ sp [y, x] H (fun z H' => ∃ b, z = .bl b ∧ Q (.bl (!b)) H') E0
theorem op_notInO (hs : PySem.W.findIn X.K (.ref C) "__contains__" = some (some (.ref g))) (hf : PySem.W.isFn X.K (.ref g) = true) (F : FnR X.prog X.w X.K X.mg X.base CX0 k g sp) (hr : Room k X.A) : OpR X (compareOp .NotIn) (rNotInO C sp) := by
  intro pins s σ H x y v u Q I rx ry h; obtain ⟨a, dx, fs, rfl, ha, q⟩ := h
  cases ry
  obtain ⟨mA, J, _⟩ := ins_get I.hok ha; obtain ⟨od, J, _⟩ := J.look
  obtain ⟨m, hF⟩ := I.fr
  refine PySem.W.notIn_K hF I.ok.mod.kin J hs hf (wpAny_mono (wpAny_call (run_fnR (us := [.ref a, v]) (vs := [.ref a, x]) F hr pass0 I (.cons rfl (.cons rx .nil)) q)) (fun r s' hq => ?_) fun _ _ z => z)
  obtain ⟨z, H', I', rz, b, ez, qq⟩ := hq
  subst ez
  cases rz
  exact wpAny_truthy_bool ⟨.bl (!b), H', I', rfl, qq⟩
/-- o == o' by an own __eq__ -/
def rEqO (C : Addr) (sp : Sp) : R2 := fun x y H Q => ∃ a dx fs b dy gs, x = .ref a ∧ y = .ref b ∧ H a = some (.ins C dx fs) ∧ H b = some (.ins C dy gs) ∧ sp [x, y] H (fun z H' => ∃ b, z = .bl b ∧ Q (.bl b) H') E0
theorem op_eqO (hs : PySem.W.findIn X.K (.ref C) "__eq__" = some (some (.ref g))) (hf : PySem.W.isFn X.K (.ref g) = true) (F : FnR X.prog X.w X.K X.mg X.base CX0 k g sp) (hr : Room k X.A) : OpR X (compareOp .Eq) (rEqO C sp) := by
  intro pins s σ H x y v u Q I rx ry h; obtain ⟨a, dx, fs, b, dy, gs, rfl, rfl, ha, hb, q⟩ := h
  cases rx
  cases ry
  obtain ⟨mA, J, _⟩ := ins_get I.hok ha; obtain ⟨mB, J', _⟩ := ins_get I.hok hb
  obtain ⟨od, J, _⟩ := J.look
  obtain ⟨od', J', _⟩ := J'.look; obtain ⟨m, hF⟩ := I.fr
  show wpAny (model X.prog X.w) X.A (richCompare .Eq (.ref a) (.ref b)) (EP X pins σ Q) X.xe s
  refine PySem.W.cmp_K (op := .Eq) (tb := .ref C) hr.units0 hF I.ok.mod.kin J J'.type (by simp [PySem.W.notFirst]) hs hf (wpAny_mono (wpAny_call (run_fnR (us := [.ref a, .ref b]) (vs := [.ref a, .ref b]) F hr pass0 I (.cons rfl (.cons rfl .nil)) q)) (fun r s' hq => ?_) fun _ _ z => z)
  obtain ⟨z, H', I', rz, b', ez, qq⟩ := hq
  subst ez
  cases rz
  exact ⟨.bl b', H', I', rfl, qq⟩
/-- len(o) by an own __len__ -/
def rLenO (C : Addr) (sp : Sp) : List V → Hp → VK → Prop := fun xs H Q => ∃ a dx fs, xs = [.ref a] ∧ H a = some (.ins C dx fs) ∧ sp xs H (fun z H' => ∃ n : Int, z = .int n ∧ (0 ≤ n ∧ n < 2 ^ 63) ∧ Q (.int n) H') E0
theorem call_lenO (hs : PySem.W.findIn X.K (.ref C) "__len__" = some (some (.ref g))) (hf : PySem.W.isFn X.K (.ref g) = true) (F : FnR X.prog X.w X.K X.mg X.base CX0 k g sp) (hr : Room (k + 1) X.A) : CallR X (.builtin "len") (rLenO C sp) := by
  intro pins s σ H xs us Q I r h; obtain ⟨a, dx, fs, rfl, ha, q⟩ := h
  obtain ⟨u, rfl, rx⟩ := vals1 r; obtain rfl : u = .ref a := rx
  obtain ⟨mA, J, _⟩ := ins_get I.hok ha; obtain ⟨od, J, _⟩ := J.look
  obtain ⟨m, hF⟩ := I.fr
  refine PySem.W.len_K hF I.ok.mod.kin J hs hf (wpAny_mono (wpAny_call (SlX.run_at (us := [.ref a]) (ws := [.ref a]) F hr.in1 I.env0.in1 pass0 I (.cons rfl .nil) q)) (fun r s' hq => ?_) fun _ _ z => z)
  obtain ⟨z, H', I', rz, n, ez, hn, qq⟩ := hq
  subst ez
  obtain ⟨t, rfl⟩ := rz
  exact ⟨hn, .int n, H', I'.tok _, ⟨_, rfl⟩, qq⟩
/-- o >> n by an own __rshift__ -/
def rShr (C : Addr) (sp : Sp) : R2 := fun x y H Q => ∃ a dx fs, ∃ n : Int, x = .ref a ∧ y = .int n ∧ H a = some (.ins C dx fs) ∧ sp [x, y] H (fun z H' => (∃ b, z = .ref b) ∧ Q z H') E0
theorem op_shrO {fo ro : Option Value} (hc : PySem.W.selfFirst X.K C = true) (hs : PySem.W.findIn X.K (.ref C) (PySem.dunder "rshift") = some (some (.ref g))) (hf : PySem.W.isFn X.K (.ref g) = true) (hr0 : PySem.W.findIn X.K (.ref C) (dunderR "rshift") = some none)
    (h1 : PySem.W.findIn X.K (.type "int") (PySem.dunder "rshift") = some fo) (h2 : PySem.W.findIn X.K (.type "int") (dunderR "rshift") = some ro) (hsub : PySem.W.subIn X.K (.type "int") (.ref C) = some false) (F : FnR X.prog X.w X.K X.mg X.base CX0 k g sp) (hr : Room k X.A) : OpR X (binaryOp .RShift) (rShr C sp) := by
  intro pins s σ H x y v u Q I rx ry h; obtain ⟨a, dx, fs, n, rfl, rfl, ha, q⟩ := h
  cases rx
  obtain ⟨t, rfl⟩ := ry
  obtain ⟨mA, J, _⟩ := ins_get I.hok ha; obtain ⟨od, J, _⟩ := J.look
  obtain ⟨m, hF⟩ := I.fr
  refine PySem.W.ksp_binT (op := .RShift) (T := "int") hF I.ok.mod.kin J rfl hc hs hf hr0 (.inl rfl) h1 h2 hsub (wpAny_mono (wpAny_call (run_fnR (us := [.ref a, .int n t]) (vs := [.ref a, .int n]) F hr pass0 I (.cons rfl (.cons ⟨t, rfl⟩ .nil)) q)) (fun r s' hq => ?_) fun _ _ z => z)
  obtain ⟨z, H', I', rz, ⟨b, ez⟩, qq⟩ := hq
  subst ez
  cases rz
  exact ⟨.ref b, H', I', rfl, qq⟩
/-- an own class as a value -/
theorem ed_cls {x : Str} (hm : X.mg x = some (.ref C)) (hg : Gl X x := by rfl) (hd : (x == ("__debug__" : Str)) = false := by decide) : ED X Hz ρ (.Name x pos) (fun _ v => v = .ref C) :=
  .by (pe_glob hg hm (v := .ref C) rfl hd) fun σ H Q E q => q _ H (Same.refl H) rfl
theorem er_isiO (hm : X.mg "isinstance" = none) (c : Cls X.K C) (i : Isi X.K C) (sP : Stb P) (hP : ∀ H v, P H v → ∃ a dx fs, v = .ref a ∧ H a = some (.ins C dx fs)) (ha : ED X Hz ρ a P) (hb : ED X Hz ρ b (fun _ v => v = .ref C)) (hg : Gl X "isinstance" := by rfl) (hs : starEach [a, b] X.env = (false, eval a X.env) :: starEach [b] X.env := by rfl) (hs2 : starEach [b] X.env = (false, eval b X.env) :: starEach [] X.env := by rfl) (hpl : (backTo pos (starEach [b] X.env)).any (·.1) = false := by rfl) :
    ER X Hz ρ (.Call (.Name "isinstance" p) [a, b] [] pos) (.bl true) :=
  ed_cb call_isi hm (by decide +kernel) (ap_cons sP ha (ap_cons stb_eq hb ap_nil hs2) hs) (fun vs H r Q q => by
    obtain ⟨v, _, rfl, rv, u, _, rfl, rfl, rfl⟩ := r
    obtain ⟨x, dx, fs, rfl, hx⟩ := hP H v rv
    exact ⟨.ref x, .ref C, .ref C, .ref C, true, rfl, .own C, .base (.ins hx c i.ha i.hn i.ht i.hm), i.hk, q _ H (Same.refl H) (.bl _)⟩) hg (by decide) (by decide) hs hpl
/-! ### making -/
/-- what an __init__ promises: pre of what stood before the instance -/
def spMk (C : Addr) (pre : Hp → List V → Prop) (post : Hp → V → Prop) : Sp := fun vs H Q _ => ∃ x dx vs' H0, vs = .ref x :: vs' ∧ H = upd (upd H0 dx (.own x)) x (.ins C dx []) ∧ H0 x = none ∧ H0 dx = none ∧ dx ≠ x ∧ pre H0 vs' ∧ ∀ H', Same H0 H' → post H' (.ref x) → Q .non H'
theorem ed_make {x : Str} {pre A : Hp → List V → Prop} {post : Hp → V → Prop} (M : Mk X.K C g) (F : FnR X.prog X.w X.K X.mg X.base CX0 k g (spMk C pre post)) (G : GX X (k + 1)) (hm : X.mg x = some (.ref C)) (ha : AD X Hz ρ (e :: es) A) (h : ∀ H vs, Same Hz H → A H vs → pre H vs) (hg : Gl X x := by rfl) (hdb : (x == ("__debug__" : Str)) = false := by decide)
    (he : starEach (e :: es) X.env = (false, eval e X.env) :: starEach es X.env := by rfl) (hpl : (backTo pos (starEach es X.env)).any (·.1) = false := by rfl) : ED X Hz ρ (.Call (.Name x p) (e :: es) [] pos) post := by
  refine .by (StX.pe_makeR (E := E0) M F G.room hg hm pass0 pa_W hdb he hpl) fun σ H Q E q => ?_
  refine ha.run σ H _ E fun vs H1 s1 p1 => fun x dx hx hdx hne => ?_
  exact ⟨x, dx, vs, H1, rfl, rfl, hx, hdx, hne, h H1 vs (E.s0.trans s1) p1, fun H' s' po => ⟨rfl, q _ H' (s1.trans s') po⟩⟩
/-! ### methods -/
theorem ed_meth {A : Hp → List V → Prop} {pl : Sem Bool} (c : Cls X.K C) (hm : Meth X.K C m g) (F : FnR X.prog X.w X.K X.mg X.base CX0 k g sp) (G : GX X k) (sO : Stb PO) (hO : ∀ H v, PO H v → ∃ a dx fs, v = .ref a ∧ H a = some (.ins C dx fs) ∧ fs.lookup m = none) (ho : ED X Hz ρ o PO) (ha : AD X Hz ρ (e :: es) A)
    (h : ∀ v vs H, Same Hz H → PO H v → A H vs → ∀ Q : VK, (∀ z H', Same H H' → P H' z → Q z H') → sp (v :: vs) H Q E0)
    (hst : starEach (e :: es) X.env = (false, eval e X.env) :: starEach es X.env := by rfl) (hpl : (backTo pos (starEach es X.env)).any (·.1) = false := by rfl) (ht : eval (.Call (.Attribute o m apos) (e :: es) [] pos) X.env = (do
      let ov ← eval o X.env
      standAt apos.atName
      let z ← holding [ov] (getMethod ov m pl)
      callWith pos z.1 z.2 (backTo pos (starEach (e :: es) X.env)) (backToKw pos (keywordEach [] X.env))) := by rfl) : ED X Hz ρ (.Call (.Attribute o m apos) (e :: es) [] pos) P := by
  refine ⟨fun σ H Q E q pins s I => ?_⟩
  refine PySem.W.methodCall_KW (pl := pl) (thn (ho.run σ H (fun v H1 => Same H H1 ∧ PO H1 v) E (fun v H1 s1 p1 => ⟨s1, p1⟩) pins s I) fun u s1 ⟨v, H1, I1, rx, sa, po⟩ => ?_) ht
  obtain ⟨x, dx, fs, rfl, hx, hl⟩ := hO H1 v po
  obtain rfl : u = Value.ref x := rx
  refine getmeth_ok I1 hx c hm hl ?_
  refine PySem.W.callWith_K (first := [.ref x]) (h₀ := X.base) I.ok.mod.kin hm.kp (thn (ha.run σ H1 (fun vs H2 => Same H1 H2 ∧ A H2 vs) (E.same sa) (fun vs H2 s2 p2 => ⟨s2, p2⟩) pos pins s1 I1) fun us s2 ⟨ws, H2, I2, r, sb, p2⟩ => ⟨I2.kIn, ?_⟩) hst hpl
  exact wpAny_call (run_fnR (us := .ref x :: us) (vs := .ref x :: ws) F G.room pass0 I2 (.cons rfl r) (h _ _ H2 (E.s0.trans (sa.trans sb)) (sO.st sb po) p2 Q fun z H' s' pz => q z H' ((sa.trans sb).trans s') pz))
/-- slotted instances -/
def Slo (C : Addr) (vs : List (Option V)) : Hp → V → Prop := fun H v => ∃ a dx, v = .ref a ∧ SlX.Slt H a C dx vs
theorem slt_same {H H' : Hp} {a C dx : Addr} {vs : List (Option V)} (h : SlX.Slt H a C dx vs) (s : Same H H') : SlX.Slt H' a C dx vs := h.elim (fun ⟨h1, h2⟩ => .inl ⟨s _ _ h1, h2⟩) fun ⟨h1, h2⟩ => .inr ⟨s _ _ h1, s _ _ h2⟩
theorem ed_slot {p' : Addr} {i : Nat} {P : Hp → V → Prop} (c : SlX.SCls X.K C) (t : SlX.Slot1 X.K C f p' i) (ho : ED X Hz ρ o fun H v => ∃ a dx vs u, v = .ref a ∧ SlX.Slt H a C dx vs ∧ vs[i]? = some (some u) ∧ P H u) (hb : attributeBase o f X.env (eval o X.env) = eval o X.env := by rfl) : ED X Hz ρ (.Attribute o f pos) P := by
  refine .by (SlX.pe_sl pe_W hb) fun σ H Q E q => ?_
  refine ho.run σ H _ E fun v H1 s1 ⟨a, dx, vs, u, ev, h1, l, pu⟩ => ?_
  exact ⟨a, C, dx, p', vs, i, u, ev, h1, c, t, l, q u H1 s1 pu⟩
theorem ed_slotAt {p' : Addr} {i : Nat} {a dx : Addr} {vs : List (Option V)} {u : V} (c : SlX.SCls X.K C) (t : SlX.Slot1 X.K C f p' i) (h : SlX.Slt Hz a C dx vs) (l : vs[i]? = some (some u)) (ho : ED X Hz ρ o (rf a).p) (hb : attributeBase o f X.env (eval o X.env) = eval o X.env := by rfl) : ED X Hz ρ (.Attribute o f pos) (fun _ v => v = u) := by
  refine .by (SlX.pe_sl pe_W hb) fun σ H Q E q => ?_
  refine ho.run σ H _ E fun v H1 s1 ev => ?_
  exact ⟨a, C, dx, p', vs, i, u, ev, slt_same h (E.s0.trans s1), c, t, l, q u H1 s1 rfl⟩
theorem ed_methSl {A : Hp → List V → Prop} {pl : Sem Bool} (c : SlX.SCls X.K C) (hm : Meth X.K C m g) (F : FnR X.prog X.w X.K X.mg X.base CX0 k g sp) (G : GX X k) (hO : ∀ H v, PO H v → ∃ a dx vs, v = .ref a ∧ SlX.Slt H a C dx vs) (sO : Stb PO) (ho : ED X Hz ρ o PO) (ha : AD X Hz ρ (e :: es) A)
    (h : ∀ v vs H, Same Hz H → PO H v → A H vs → ∀ Q : VK, (∀ z H', Same H H' → P H' z → Q z H') → sp (v :: vs) H Q E0)
    (hst : starEach (e :: es) X.env = (false, eval e X.env) :: starEach es X.env := by rfl) (hpl : (backTo pos (starEach es X.env)).any (·.1) = false := by rfl) (ht : eval (.Call (.Attribute o m apos) (e :: es) [] pos) X.env = (do
      let ov ← eval o X.env
      standAt apos.atName
      let z ← holding [ov] (getMethod ov m pl)
      callWith pos z.1 z.2 (backTo pos (starEach (e :: es) X.env)) (backToKw pos (keywordEach [] X.env))) := by rfl) : ED X Hz ρ (.Call (.Attribute o m apos) (e :: es) [] pos) P := by
  refine .by (SlX.pe_methSl (pl := pl) pe_W c hm F G.room pass0 pa_W hst hpl ht) fun σ H Q E q => ?_
  refine ho.run σ H _ E fun v H1 s1 po => ?_
  obtain ⟨x, dx, vs, rfl, hx⟩ := hO H1 v po
  refine ⟨x, dx, vs, rfl, hx, ?_⟩
  refine ha.run σ H1 _ (E.same s1) fun ws H2 s2 p2 => ?_
  exact h _ ws H2 (E.s0.trans (s1.trans s2)) (sO.st s2 po) p2 Q fun z H' s' pz => q z H' ((s1.trans s2).trans s') pz
theorem ed_methSl0 {pl : Sem Bool} (c : SlX.SCls X.K C) (hm : Meth X.K C m g) (F : FnR X.prog X.w X.K X.mg X.base CX0 k g sp) (G : GX X k) (hO : ∀ H v, PO H v → ∃ a dx vs, v = .ref a ∧ SlX.Slt H a C dx vs) (ho : ED X Hz ρ o PO)
    (h : ∀ v H, Same Hz H → PO H v → ∀ Q : VK, (∀ z H', Same H H' → P H' z → Q z H') → sp [v] H Q E0)
    (ht : (eval (.Call (.Attribute o m apos) [] [] pos) X.env) = (do
      let ov ← eval o X.env
      standAt apos.atName
      let z ← holding [ov] (getMethod ov m pl)
      callWith pos z.1 z.2 (backTo pos (starEach [] X.env)) (backToKw pos (keywordEach [] X.env))) := by rfl) : ED X Hz ρ (.Call (.Attribute o m apos) [] [] pos) P := by
  refine .by (SlX.pe_methSl0 (pl := pl) pe_W c hm F G.room pass0 ht) fun σ H Q E q => ?_
  refine ho.run σ H _ E fun v H1 s1 po => ?_
  obtain ⟨x, dx, vs, rfl, hx⟩ := hO H1 v po
  refine ⟨x, dx, vs, rfl, hx, ?_⟩
  exact h _ H1 (E.s0.trans s1) po Q fun z H' s' pz => q z H' (s1.trans s') pz
end
section
variable {X : Cx} {ρ : Rho} {σ : L2.St} {H : Hp} {D' : Ends} {o e : Expr} {rest : List Stmt} {pos pos' : Pos} {k : Nat} {C a dx : Addr} {f : Str} {P : Hp → V → Prop}
/-- o.f = e -/
theorem s_fld {fs : List (Str × V)} (c : Cls X.K C) (n : NoAttr X.K C f) (E : Env ρ σ H) (hx : H a = some (.ins C dx fs)) (hl : fs.length < 1000) (sP : Stb P) (ho : ∀ Hz, ED X Hz ρ o (rf a).p) (he : ED X H ρ e P)
    (q : ∀ v H', Same H H' → P H' v → WSs X rest D' σ (upd H' a (.ins C dx (putF f v fs)))) (hs : swapsWith e (some (.Attribute o f pos')) pos.line X.env = pure false := by rfl) : WSs X (.Assign [.Attribute o f pos'] e pos :: rest) D' σ H := by
  refine s_cons (.by (ps_fld pe_W pe_W hs) ?_)
  refine he.run σ H _ E.en fun v H1 s1 p1 => ?_
  refine (ho H1).run σ H1 _ (E.same s1).en fun x H2 s2 ex => ?_
  exact ⟨a, C, dx, fs, ex, (s1.trans s2) _ _ hx, c, n, hl, q v H2 (s1.trans s2) (sP.st s2 p1)⟩
/-- o.f = e, a slot -/
theorem s_slot {p' : Addr} {i : Nat} {vs : List (Option V)} (c : SlX.SCls X.K C) (t : SlX.Slot1 X.K C f p' i) (E : Env ρ σ H) (hx : SlX.Slt H a C dx vs) (sP : Stb P) (ho : ∀ Hz, ED X Hz ρ o (rf a).p) (he : ED X H ρ e P)
    (q : ∀ v H', Same H H' → P H' v → WSs X rest D' σ (SlX.slH H' a C dx (SlX.putS i v vs))) (hs : swapsWith e (some (.Attribute o f pos')) pos.line X.env = pure false := by rfl) : WSs X (.Assign [.Attribute o f pos'] e pos :: rest) D' σ H := by
  refine s_cons (.by (SlX.ps_sl pe_W pe_W hs) ?_)
  refine he.run σ H _ E.en fun v H1 s1 p1 => ?_
  refine (ho H1).run σ H1 _ (E.same s1).en fun x H2 s2 ex => ?_
  exact ⟨a, C, dx, p', vs, i, ex, slt_same hx (s1.trans s2), c, t, q v H2 (s1.trans s2) (sP.st s2 p1)⟩
/-- what no one writes any more -/
theorem s_freeze {u : HO} {d : Addr} (h : H d = some u) (mu : Mut (some u)) (q : ∀ od, WSs X rest D' σ (upd H d (.frz od u))) : WSs X rest D' σ H := by
  intro pins s I
  obtain ⟨od, I'⟩ := I.lock h mu
  exact q od pins s I'
end
end K31
namespace K31
open L2 PySem PySem.Spec PyProof.Rows
/-! ### the program's objects -/
def DictF {κ : Type} (ke : κ → List Key) (H : Hp) (a : Addr) (m : List (κ × D)) : Prop := ∃ (vs : List V) (od : Obj), H a = some (.frz od (.dT ((m.map fun e => ke e.1).zip vs))) ∧ RepL H (m.map (·.2)) vs
section
variable {κ : Type} [DecidableEq κ] {kd : κ → D} {ke : κ → List Key} {H H' : Hp} {a : Addr} {m : List (κ × D)}
theorem DictF.le (h : DictF ke H a m) (l : Le H H') : DictF ke H' a m := let ⟨vs, od, e, r⟩ := h; ⟨vs, od, l _ _ e rfl, r.le l⟩
theorem DictF.r (h : DictF ke H a m) : DictR ke H a m := let ⟨vs, od, e, r⟩ := h; ⟨vs, .inr ⟨od, e⟩, r⟩
end
def allT {κ : Type} (l : List κ) : List (κ × D) := l.map fun p => (p, .bl true)
theorem getM_allT {κ : Type} [DecidableEq κ] (l : List κ) (k : κ) : (getM (allT l) k).isSome = decide (k ∈ l) := by
  rw [Bool.eq_iff_iff, getM_isSome, decide_eq_true_eq]
  unfold allT
  rw [List.map_map]
  show k ∈ l.map (fun x => x) ↔ _
  rw [List.map_id']
def BoardAt (K : PySem.W.Frag) (B : Boards) (H : Hp) (a : Addr) : Prop := ∃ dx v1 v2 d, H a = some (.ins (He.ga K "Board") dx [("own_rows", v1), ("own_dots", v2), ("own_at", .ref d)]) ∧ Rep H (dRows B) v1 ∧ Rep H (dLit (dotsOf B)) v2 ∧ DictF keDot H d (allT (dotsOf B))
theorem BoardAt.le {K : PySem.W.Frag} {B : Boards} {H H' : Hp} {a : Addr} (h : BoardAt K B H a) (l : Le H H') : BoardAt K B H' a := let ⟨dx, v1, v2, d, e, r1, r2, r3⟩ := h; ⟨dx, v1, v2, d, l _ _ e rfl, r1.le l, r2.le l, r3.le l⟩
def BoP (K : PySem.W.Frag) (B : Boards) : PP := ⟨fun H v => ∃ a, v = .ref a ∧ BoardAt K B H a, fun l ⟨a, e, h⟩ => ⟨a, e, h.le l⟩⟩
def PicAt (K : PySem.W.Frag) (B : Boards) (l : List Dot) (H : Hp) (a : Addr) : Prop := ∃ dx v1 v2 d, H a = some (.ins (He.ga K "Picture") dx [("own_board", v1), ("own_dots", v2), ("own_lit", .ref d)]) ∧ (BoP K B).p H v1 ∧ Rep H (dLit l) v2 ∧ DictF keDot H d (allT l)
theorem PicAt.le {K : PySem.W.Frag} {B : Boards} {lt : List Dot} {H H' : Hp} {a : Addr} (h : PicAt K B lt H a) (l : Le H H') : PicAt K B lt H' a := let ⟨dx, v1, v2, d, e, r1, r2, r3⟩ := h; ⟨dx, v1, v2, d, l _ _ e rfl, (BoP K B).le l r1, r2.le l, r3.le l⟩
def PiP (K : PySem.W.Frag) (B : Boards) (lt : List Dot) : PP := ⟨fun H v => ∃ a, v = .ref a ∧ PicAt K B lt H a, fun l ⟨a, e, h⟩ => ⟨a, e, h.le l⟩⟩
abbrev oP (K : PySem.W.Frag) (B : Boards) (lt : List Dot) : D := .obj (PiP K B lt)
abbrev oPs (K : PySem.W.Frag) (B : Boards) (f : Films) : D := .tup (f.map (oP K B))
def FilmAt (K : PySem.W.Frag) (B : Boards) (f : Films) (H : Hp) (a : Addr) : Prop := ∃ dx v1 v2, H a = some (.ins (He.ga K "Film") dx [("own_pictures", v1), ("own_board", v2)]) ∧ Rep H (oPs K B f) v1 ∧ (BoP K B).p H v2
theorem FilmAt.le {K : PySem.W.Frag} {B : Boards} {f : Films} {H H' : Hp} {a : Addr} (h : FilmAt K B f H a) (l : Le H H') : FilmAt K B f H' a := let ⟨dx, v1, v2, e, r1, r2⟩ := h; ⟨dx, v1, v2, l _ _ e rfl, r1.le l, (BoP K B).le l r2⟩
def FiP (K : PySem.W.Frag) (B : Boards) (f : Films) : PP := ⟨fun H v => ∃ a, v = .ref a ∧ FilmAt K B f H a, fun l ⟨a, e, h⟩ => ⟨a, e, h.le l⟩⟩
abbrev oF (K : PySem.W.Frag) (B : Boards) (f : Films) : D := .obj (FiP K B f)
theorem BoP.ins {K : PySem.W.Frag} {B : Boards} (H : Hp) (v : V) (h : (BoP K B).p H v) : ∃ a dx fs, v = .ref a ∧ H a = some (.ins (He.ga K "Board") dx fs) := let ⟨a, e, dx, v1, v2, d, h, _⟩ := h; ⟨a, dx, _, e, h⟩
theorem PiP.ins {K : PySem.W.Frag} {B : Boards} {l : List Dot} (H : Hp) (v : V) (h : (PiP K B l).p H v) : ∃ a dx fs, v = .ref a ∧ H a = some (.ins (He.ga K "Picture") dx fs) := let ⟨a, e, dx, v1, v2, d, h, _⟩ := h; ⟨a, dx, _, e, h⟩
theorem FiP.ins {K : PySem.W.Frag} {B : Boards} {f : Films} (H : Hp) (v : V) (h : (FiP K B f).p H v) : ∃ a dx fs, v = .ref a ∧ H a = some (.ins (He.ga K "Film") dx fs) := let ⟨a, e, dx, v1, v2, h, _⟩ := h; ⟨a, dx, _, e, h⟩
/-- what a frozen dict of lit dots is -/
def LitP (l : List Dot) : PP := ⟨fun H v => ∃ d, v = .ref d ∧ DictF keDot H d (allT l), fun le ⟨d, e, h⟩ => ⟨d, e, h.le le⟩⟩
section
variable {X : Cx} {Hz : Hp} {ρ : Rho} {o e a b : Expr} {es : List Expr} {pos p apos : Pos} {k : Nat} {B : Boards} {l : List Dot} {f : Films} {mg : Str → Option Value} {K : PySem.W.Frag}
theorem Ty.cB (T : Ty K mg) : Cls K (He.ga K "Board") := T.cls 101 rfl
theorem Ty.cP (T : Ty K mg) : Cls K (He.ga K "Picture") := T.cls 106 rfl
theorem Ty.cF (T : Ty K mg) : Cls K (He.ga K "Film") := T.cls 111 rfl
theorem Ty.noat (T : Ty K mg) {x f : Str} (i : Nat) (h : fa[i]? = some (.noat x f)) : NoAttr K (He.ga K x) f := He.noat_ok (T.tx.says.fact i h)
theorem Ty.mkr (T : Ty K mg) {x : Str} (i : Nat) (h : fa[i]? = some (.mkr x)) : Mk K (He.ga K x) (He.ma K (He.ga K x) "__init__") := He.mkr_ok (T.tx.says.fact i h)
theorem Ty.methF (T : Ty K mg) {x m : Str} (i : Nat) (h : fa[i]? = some (.meth x m)) : Meth K (He.ga K x) m (He.ma K (He.ga K x) m) := He.meth_ok (T.tx.says.fact i h)
theorem Ty.methX (T : Ty K mg) {x m : Str} (h : He.Fa.meth x m ∈ exFa) : Meth K (He.ga K x) m (He.ma K (He.ga K x) m) := He.meth_ok (T.xfa h)
theorem Ty.mkX (T : Ty K mg) {x : Str} (h : He.Fa.mkr x ∈ exFa) : Mk K (He.ga K x) (He.ma K (He.ga K x) "__init__") := He.mkr_ok (T.xfa h)
theorem ed_bdots (T : Ty X.K mg) (ho : ED X Hz ρ o (BoP X.K B).p) (hb : attributeBase o "own_dots" X.env (eval o X.env) = eval o X.env := by rfl) : ER X Hz ρ (.Attribute o "own_dots" pos) (dLit (dotsOf B)) :=
  ed_fld T.cB (T.noat 104 rfl) (ho.imp fun H v ⟨a, e, dx, v1, v2, d, h, r1, r2, r3⟩ => ⟨a, dx, _, v2, e, h, rfl, r2⟩) hb
theorem ed_pboard (T : Ty X.K mg) (ho : ED X Hz ρ o (PiP X.K B l).p) (hb : attributeBase o "own_board" X.env (eval o X.env) = eval o X.env := by rfl) : ED X Hz ρ (.Attribute o "own_board" pos) (BoP X.K B).p :=
  ed_fld T.cP (T.noat 108 rfl) (ho.imp fun H v ⟨a, e, dx, v1, v2, d, h, r1, r2, r3⟩ => ⟨a, dx, _, v1, e, h, rfl, r1⟩) hb
theorem ed_plit (T : Ty X.K mg) (ho : ED X Hz ρ o (PiP X.K B l).p) (hb : attributeBase o "own_lit" X.env (eval o X.env) = eval o X.env := by rfl) : ED X Hz ρ (.Attribute o "own_lit" pos) (LitP l).p :=
  ed_fld T.cP (T.noat 110 rfl) (ho.imp fun H v ⟨a, e, dx, v1, v2, d, h, r1, r2, r3⟩ => ⟨a, dx, _, .ref d, e, h, rfl, d, rfl, r3⟩) hb
theorem er_fpics (T : Ty X.K mg) (ho : ED X Hz ρ o (FiP X.K B f).p) (hb : attributeBase o "own_pictures" X.env (eval o X.env) = eval o X.env := by rfl) : ER X Hz ρ (.Attribute o "own_pictures" pos) (oPs X.K B f) :=
  ed_fld T.cF (T.noat 113 rfl) (ho.imp fun H v ⟨a, e, dx, v1, v2, h, r1, r2⟩ => ⟨a, dx, _, v1, e, h, rfl, r1⟩) hb
theorem ed_fboard (T : Ty X.K mg) (ho : ED X Hz ρ o (FiP X.K B f).p) (hb : attributeBase o "own_board" X.env (eval o X.env) = eval o X.env := by rfl) : ED X Hz ρ (.Attribute o "own_board" pos) (BoP X.K B).p :=
  ed_fld T.cF (T.noat 114 rfl) (ho.imp fun H v ⟨a, e, dx, v1, v2, h, r1, r2⟩ => ⟨a, dx, _, v2, e, h, rfl, r2⟩) hb
/-- the properties -/
theorem er_prows (T : Ty X.K mg) (G : GX X 2) (ho : ED X Hz ρ o (BoP X.K B).p) (hb : attributeBase o "rows" X.env (eval o X.env) = eval o X.env := by rfl) : ER X Hz ρ (.Attribute o "rows" pos) (dRows B) := by
  obtain ⟨hp, fd, F, hk⟩ := prop_of (P := X.prog) (w := X.w) (mg := X.mg) (base := X.base) (N := ["self"]) (k := 0) T.xp1 T.g1 ⟨rfl, rfl, rfl, by decide +kernel, rfl, by decide +kernel, by decide +kernel⟩ rfl (by rfl) T.cB (T.noat 103 rfl) (fun _ _ _ _ _ _ us hl => match us, hl with | [_], _ => rfl)
  exact ed_prop T.cB hp F hk G (ho.imp fun H v ⟨a, e, dx, v1, v2, d, h, r1, r2, r3⟩ => ⟨a, dx, _, v1, e, h, rfl, r1⟩) hb
theorem er_pdots (T : Ty X.K mg) (G : GX X 2) (ho : ED X Hz ρ o (PiP X.K B l).p) (hb : attributeBase o "dots" X.env (eval o X.env) = eval o X.env := by rfl) : ER X Hz ρ (.Attribute o "dots" pos) (dLit l) := by
  obtain ⟨hp, fd, F, hk⟩ := prop_of (P := X.prog) (w := X.w) (mg := X.mg) (base := X.base) (N := ["self"]) (k := 0) T.xp2 T.g2 ⟨rfl, rfl, rfl, by decide +kernel, rfl, by decide +kernel, by decide +kernel⟩ rfl (by rfl) T.cP (T.noat 109 rfl) (fun _ _ _ _ _ _ us hl => match us, hl with | [_], _ => rfl)
  exact ed_prop T.cP hp F hk G (ho.imp fun H v ⟨a, e, dx, v1, v2, d, h, r1, r2, r3⟩ => ⟨a, dx, _, v2, e, h, rfl, r2⟩) hb
end
end K31
namespace K31
open L2 PySem PySem.Spec PyProof.Rows
/-! ### targets among more slots -/
theorem wipe_at (σ : L2.St) (m : Nat) : ∀ vs : List Nat, (wipe σ vs)[m]? = if m ∈ vs then (σ[m]?).map (fun _ => none) else σ[m]?
  | [] => by simp [wipe]
  | v :: vs => by
    show ((wipe σ vs).set v none)[m]? = _
    rw [List.getElem?_set]
    have ih := wipe_at σ m vs
    by_cases h : v = m
    · subst h
      rw [if_pos rfl, if_pos List.mem_cons_self, wipe_length]
      by_cases hl : v < σ.length
      · rw [if_pos hl, List.getElem?_eq_getElem hl]; rfl
      · rw [if_neg hl, List.getElem?_eq_none (by omega)]; rfl
    · rw [if_neg h, ih]
      have : (m ∈ v :: vs) ↔ m ∈ vs := by simp [Ne.symm h]
      by_cases h2 : m ∈ vs
      · rw [if_pos h2, if_pos (this.mpr h2)]
      · rw [if_neg h2, if_neg (fun z => h2 (this.mp z))]
theorem wipe_set_v (σ : L2.St) {i : Nat} {vs : List Nat} (hi : i ∈ vs) (o : Option V) : wipe ((wipe σ vs).set i o) vs = wipe σ vs := by
  apply List.ext_getElem?
  intro m
  rw [wipe_at, wipe_at]
  by_cases h : m ∈ vs
  · rw [if_pos h, if_pos h, List.getElem?_set]
    by_cases h2 : i = m
    · subst h2
      rw [if_pos rfl, wipe_length]
      by_cases hl : i < σ.length
      · rw [if_pos hl, List.getElem?_eq_getElem hl]; rfl
      · rw [if_neg hl, List.getElem?_eq_none (by omega)]
    · rw [if_neg h2, wipe_at, if_pos h, Option.map_map]; rfl
  · rw [if_neg h, if_neg h, List.getElem?_set, if_neg (fun e : i = m => h (e ▸ hi)), wipe_at, if_neg h]
theorem wipe_set_v2 (σ : L2.St) {i j : Nat} {vs : List Nat} (hi : i ∈ vs) (hj : j ∈ vs) (o o' : Option V) : wipe (((wipe σ vs).set i o).set j o') vs = wipe σ vs := by
  apply List.ext_getElem?
  intro m
  rw [wipe_at, wipe_at]
  by_cases h : m ∈ vs
  · rw [if_pos h, if_pos h, List.getElem?_set, List.getElem?_set]
    have key : ((wipe σ vs)[m]?).map (fun _ => (none : Option V)) = (σ[m]?).map (fun _ => none) := by
      rw [wipe_at, if_pos h, Option.map_map]; rfl
    have kl : ∀ (n : Nat), n = m → (if n < σ.length then some o' else none : Option (Option V)).map (fun _ => (none : Option V)) = (σ[m]?).map (fun _ => none) := by
      rintro n rfl
      by_cases hl : n < σ.length
      · rw [if_pos hl, List.getElem?_eq_getElem hl]; rfl
      · rw [if_neg hl, List.getElem?_eq_none (by omega)]
    have kl2 : ∀ (n : Nat), n = m → (if n < σ.length then some o else none : Option (Option V)).map (fun _ => (none : Option V)) = (σ[m]?).map (fun _ => none) := by
      rintro n rfl
      by_cases hl : n < σ.length
      · rw [if_pos hl, List.getElem?_eq_getElem hl]; rfl
      · rw [if_neg hl, List.getElem?_eq_none (by omega)]
    by_cases h2 : j = m
    · rw [if_pos h2, List.length_set, wipe_length]; exact kl j h2
    · rw [if_neg h2]
      by_cases h3 : i = m
      · rw [if_pos h3, wipe_length]; exact kl2 i h3
      · rw [if_neg h3]; exact key
  · rw [if_neg h, if_neg h, List.getElem?_set, if_neg (fun e : j = m => h (e ▸ hj)), List.getElem?_set, if_neg (fun e : i = m => h (e ▸ hi)), wipe_at, if_neg h]
section
variable {Y : Cx} {ρ : Rho} {pos : Pos} {k : Nat}
theorem tg_nameV (i : Nat) {x : Str} {d : D} {vs : List Nat} (hv : i ∈ vs) (nd : Y.N.Nodup) (hi : Y.N[i]? = some x := by rfl) (hx : Loc Y.env.scope x := by first | exact .inl rfl | exact .inr rfl) (hf : Y.fn x = true ∨ Y.env.scope.names.lookup x = some .local := by first | exact .inr rfl | exact .inl rfl) :
    TgD Y ρ (ρ.set i (some (R d))) (.Name x pos) vs d := ⟨fun σ H v Q E r q pins s u I ru => (pg_name nd hi hx hf).run pins s _ H v u Q I ru (q _ (E.set i (P := R d) r) (wipe_set_v σ hv _))⟩
theorem tg_tup2V (i j : Nat) {x y : Str} {d d' : D} {px py : Pos} {n : Nat} {vs : List Nat} (hvi : i ∈ vs) (hvj : j ∈ vs) (nd : Y.N.Nodup) (hc : Y.calm = true) (hi : Y.N[i]? = some x := by rfl) (hx : Loc Y.env.scope x := by first | exact .inl rfl | exact .inr rfl) (hf : Y.fn x = true ∨ Y.env.scope.names.lookup x = some .local := by first | exact .inr rfl | exact .inl rfl)
    (hj : Y.N[j]? = some y := by rfl) (hy : Loc Y.env.scope y := by first | exact .inl rfl | exact .inr rfl) (hg : Y.fn y = true ∨ Y.env.scope.names.lookup y = some .local := by first | exact .inr rfl | exact .inl rfl) :
    TgD Y ρ ((ρ.set i (some (R d))).set j (some (R d'))) (.Tuple [.Name x px, .Name y py] n pos) vs (.tup [d, d']) := by
  refine ⟨fun σ H v Q E r q pins s u I ru => (pg_tup hc (pgs_cons (pg_name nd hi hx hf) (pgs_cons (pg_name nd hj hy hg) pgs_nil))).run pins s _ H v u Q I ru ?_⟩
  cases r with
  | tup h rl =>
    cases rl with
    | cons r1 t =>
      cases t with
      | cons r2 t2 =>
        cases t2
        exact ⟨_, _, rfl, SqT.of h, rfl, _, _, rfl, _, _, rfl, rfl, q _ ((E.set i (P := R d) r1).set j (P := R d') r2) (wipe_set_v2 σ hvi hvj _ _)⟩
end
/-! ### {k: True for k in it} -/
section
variable {X : Cx} {Hz : Hp} {ρ : Rho} {tg it kx vx : Expr} {scope : Scope} {own : List (Str × Nat)} {pos : Pos} {k : Nat} {κ : Type} [DecidableEq κ] {kd : κ → D} {ke : κ → List Key}
theorem ed_dcT (KE : KeyE kd ke) {L : List κ} {ρ' : κ → Rho} (G : GX X k) (own : List (Str × Nat)) (hi : Src X Hz ρ tg it (L.map kd)) (ok : BlkOk X.N X.env.scope scope own) (hl : L.length < 100000) (nd : L.Nodup)
    (ht : ∀ s H0 C cl fp, ∀ x ∈ L, TgD (Cx.bk X s H0 scope C cl fp) (wipeR ρ (own.map (·.2))) (ρ' x) tg (own.map (·.2)) (kd x))
    (hk : ∀ s H0 C cl fp, ∀ x ∈ L, ER (Cx.bk X s H0 scope C cl fp) Hz (ρ' x) kx (kd x))
    (hv : ∀ s H0 C cl fp, ∀ x ∈ L, ER (Cx.bk X s H0 scope C cl fp) Hz (ρ' x) vx (.bl true)) (hs : ∀ x, foldedSetIterable it X.env x = pure x := by intro _; rfl) :
    ED X Hz ρ (.DictComp kx vx [⟨tg, it, [], 0⟩] scope pos) (fun H v => ∃ d, v = .ref d ∧ Hz d = none ∧ DictT ke H d (allT L)) := by
  refine .by (pe_dcT (own := own) (g := AllG X scope tg) (tk := AllE X scope kx) (tv := AllE X scope vx) G.calm G.hu G.nd pi_W ok (fun s H C cl fp => ⟨fun pins s' σ H' v u Q I r h => h s H C cl fp pins s' u I r⟩) (fun s H C cl fp => ⟨fun pins s' σ H' Q I h => h s H C cl fp pins s' I⟩) (fun s H C cl fp => ⟨fun pins s' σ H' Q I h => h s H C cl fp pins s' I⟩) hs) fun σ H Q E q => ?_
  refine hi.run σ H _ E fun J H1 Gd s1 g1 gs wk d hd => ?_
  rw [List.length_map] at wk
  refine ⟨fun i m H' => m = L.length - i ∧ i ≤ L.length ∧ Same H1 H' ∧ DictT ke H' d (allT (L.take i)), ⟨L.length, by simp, Nat.zero_le _, same_upd hd, [], upd_same, .nil⟩, ?_⟩
  rintro i m H' ⟨rfl, hi', sa, hD⟩
  have gH := gs _ _ sa g1
  by_cases hlt : i < L.length
  · refine .inr ⟨wk.goes i H' hlt gH, fun H'' => L.length - (i + 1) = L.length - (i + 1) ∧ i + 1 ≤ L.length ∧ Same H1 H'' ∧ DictT ke H'' d (allT (L.take (i + 1))), fun H'' p => ⟨L.length - (i + 1), by omega, p⟩, fun v H2 y => ?_⟩
    obtain ⟨sab, dd, hdd, rd⟩ := wk.yields i H' v H2 hlt gH y
    obtain ⟨x, hx, rfl⟩ := get_map hdd
    have hxm := List.mem_of_getElem? hx
    have rv := rd sa
    have E2 : En Hz ρ σ H2 := E.same ((s1.trans sa).trans sab)
    intro s0 H0 C cl fp
    refine (ht s0 H0 C cl fp x hxm).run σ H2 v _ (E2.env.wipe _) rv fun σ2 Ex w2 => ⟨w2, ?_⟩
    intro s0' H0' C' cl' fp'
    refine (hk s0' H0' C' cl' fp' x hxm).run σ2 H2 _ ⟨E2.s0, Ex⟩ fun y H4 s4 r4 => ?_
    intro s6 H06 C6 cl6 fp6
    refine (hv s6 H06 C6 cl6 fp6 x hxm).run σ2 H4 _ ⟨E2.s0.trans s4, Ex.same s4⟩ fun z H5 s5 r5 => ?_
    cases r5
    obtain ⟨b, rfl, hb⟩ := KE.rep r4
    have sA := (sab.trans s4).trans s5
    obtain ⟨vs, e, r⟩ := hD.same sA
    have hxn : x ∉ ((allT (L.take i)).map Prod.fst) := fun hm => by
      unfold allT at hm
      rw [List.map_map] at hm
      obtain ⟨z, hz, rfl⟩ := List.mem_map.mp hm
      have h2 : (L.take (i + 1)).Nodup := nd.sublist (List.take_sublist _ _)
      rw [take_snoc hx, List.nodup_append] at h2
      exact h2.2.2 _ hz _ (List.mem_singleton.mpr rfl) rfl
    have hlen := r.length
    have hlt2 : (allT (L.take i)).length ≤ L.length := by unfold allT; rw [List.length_map, List.length_take]; omega
    obtain ⟨us, eu, ru⟩ := put_zip (H := upd H5 d (.dT (putK (((allT (L.take i)).map fun e => ke e.1).zip vs) (ke x) (.bl true)))) KE x (d := .bl true) (v := .bl true) (.bl _) (r.le (Le.upd e rfl))
    refine ⟨_, ke x, b, rfl, s5 _ _ hb, e, ?_, rfl, by omega, ?_, ?_⟩
    · rw [List.length_zip, List.length_map]
      exact Nat.lt_of_le_of_lt (Nat.min_le_left _ _) (Nat.lt_of_le_of_lt hlt2 (Nat.lt_of_lt_of_le hl (by decide)))
    · intro a o ha
      have hne : a ≠ d := by intro z; subst z; rw [hd] at ha; cases ha
      rw [upd_ne hne]
      exact sA _ _ (sa _ _ ha)
    · rw [eu] at ru ⊢
      rw [putM_new _ hxn] at ru ⊢
      have e3 : allT (L.take (i + 1)) = allT (L.take i) ++ [(x, .bl true)] := by
        rw [take_snoc hx]; unfold allT; rw [List.map_append]; rfl
      rw [e3]
      exact ⟨us, upd_same, ru⟩
  · have : i = L.length := by omega
    subst this
    refine .inl ⟨wk.stops H' gH, ?_⟩
    rw [List.take_length] at hD
    refine q _ H' (s1.trans sa) ⟨d, rfl, ?_, hD⟩
    cases hz : Hz d with
    | none => rfl
    | some o => have := s1 _ _ (E.s0 _ _ hz); rw [hd] at this; cases this
end
/-! ### data that names no object -/
mutual
def D.pl : D → Bool
  | .obj _ => false
  | .tup ds => D.plL ds
  | _ => true
def D.plL : List D → Bool
  | [] => true
  | d :: ds => d.pl && D.plL ds
end
mutual
theorem Rep.putI {H : Hp} {x : Addr} {o o' : HO} (hx : H x = some o) (ho : ∀ xs, o ≠ .tup xs) : ∀ {d : D} {v : V}, Rep H d v → d.pl = true → Rep (upd H x o') d v
  | _, _, .non, _ => .non
  | _, _, .bl b, _ => .bl b
  | _, _, .int i, _ => .int i
  | _, _, .str s, _ => .str s
  | _, _, .tup (a := a) h r, hp => .tup (by rw [upd_ne (fun e => by subst e; rw [hx] at h; cases h; exact ho _ rfl)]; exact h) (RepL.putI hx ho r hp)
  | _, _, .any v, _ => .any v
  | _, _, .obj h, hp => by cases hp
theorem RepL.putI {H : Hp} {x : Addr} {o o' : HO} (hx : H x = some o) (ho : ∀ xs, o ≠ .tup xs) : ∀ {ds : List D} {vs : List V}, RepL H ds vs → D.plL ds = true → RepL (upd H x o') ds vs
  | _, _, .nil, _ => .nil
  | _, _, .cons r t, hp => .cons (Rep.putI hx ho r (Bool.and_eq_true_iff.mp hp).1) (RepL.putI hx ho t (Bool.and_eq_true_iff.mp hp).2)
end
theorem pl_map {α : Type} {f : α → D} (h : ∀ x, (f x).pl = true) : ∀ l : List α, D.plL (l.map f) = true
  | [] => rfl
  | x :: l => by show ((f x).pl && D.plL (l.map f)) = true; rw [h x, pl_map h l]; rfl
theorem pl_rows (B : Boards) : (dRows B).pl = true := pl_map (fun _ => rfl) B
theorem pl_lit (l : List Dot) : (dLit l).pl = true := pl_map (fun _ => rfl) l
end K31
namespace K31
open L2 PySem PySem.Spec PyProof.Rows
theorem mkRow_inj {r r' : List Bool} (h : mkRow r = mkRow r') : r = r' := by
  unfold mkRow at h
  injection h with h
  have h2 := congrArg Array.toList h
  simp only at h2
  have inj : ∀ {l m : List Bool}, l.map (fun b => if b = true then 111 else 46) = m.map (fun b => if b = true then 111 else 46) → l = m := by
    intro l
    induction l with
    | nil => intro m h; cases m with
      | nil => rfl
      | cons _ _ => simp at h
    | cons a l ih =>
      intro m h
      cases m with
      | nil => simp at h
      | cons b m =>
        rw [List.map_cons, List.map_cons] at h; injection h with h1 h2
        rw [ih h2]
        cases a <;> cases b <;> first | rfl | (simp at h1)
  exact inj h2
theorem enc_row : Enc 0 (fun r : List Bool => .str (mkRow r)) (fun r => PyData.str (mkRow r)) where
  dp := fun {K H x v} r => by cases r; exact .str _
  lay := fun r => by
    show ((r.map fun b => if b = true then 111 else 46).toArray).all (· < 0x110000) = true
    rw [List.all_toArray, List.all_eq_true]
    intro c hc
    obtain ⟨b, _, rfl⟩ := List.mem_map.mp hc
    cases b <;> decide
  dep := fun _ => Nat.zero_le _
  eq := fun x y => by
    show (mkRow x == mkRow y) = true ↔ x = y
    rw [beq_iff_eq]
    exact ⟨mkRow_inj, fun h => by rw [h]⟩
theorem same_new {H0 : Hp} {x dx : Addr} {o o' : HO} (hx : H0 x = none) (hdx : H0 dx = none) : Same H0 (upd (upd H0 dx o) x o') := fun a u ha => by
  rw [upd_ne (fun e => by subst e; rw [hx] at ha; cases ha), upd_ne (fun e => by subst e; rw [hdx] at ha; cases ha)]; exact ha
theorem same_put {H0 H : Hp} {x : Addr} {o : HO} (s : Same H0 H) (hx : H0 x = none) : Same H0 (upd H x o) := SameBut.same (l := x) .upd s hx
theorem zip_range {α : Type} (d : α) (l : List α) : l.zipIdx = (List.range l.length).map fun j => (l.getD j d, j) := by
  apply List.ext_getElem?
  intro i
  rw [List.getElem?_zipIdx, List.getElem?_map]
  by_cases h : i < l.length
  · rw [List.getElem?_range h, List.getElem?_eq_getElem h]; simp [List.getD, List.getElem?_eq_getElem h]
  · rw [List.getElem?_eq_none (by omega), List.getElem?_eq_none (by rw [List.length_range]; omega)]; rfl
theorem row_zip (i : Nat) (r : List Bool) : ((r.zipIdx.filter fun y => y.1).map fun y => ((i : Int), (y.2 : Int))) = rowDots i r := by
  rw [zip_range false, List.filter_map, List.map_map]
  unfold rowDots
  rfl
theorem dots_zip : ∀ (B : Boards) (i : Nat), ((B.zipIdx i).flatMap fun x => (x.1.zipIdx.filter fun y => y.1).map fun y => ((x.2 : Int), (y.2 : Int))) = dotsFrom i B
  | [], _ => rfl
  | r :: B, i => by
    rw [List.zipIdx_cons, List.flatMap_cons, dots_zip B (i + 1), row_zip]; rfl
theorem dots_flat (B : Boards) : (B.zipIdx.flatMap fun x => (x.1.zipIdx.filter fun y => y.1).map fun y => dDot ((x.2 : Int), (y.2 : Int))) = (dotsOf B).map dDot := by
  have h := congrArg (List.map dDot) (dots_zip B 0)
  rw [List.map_flatMap] at h
  unfold dotsOf
  rw [← h]
  congr 1
  funext x
  rw [List.map_map]; rfl
def Dim (B : Boards) : Prop := B.length ≤ 10 ∧ ∀ r ∈ B, r.length ≤ 10
theorem GoodB.dim {B : Boards} (g : GoodB B) : Dim B := ⟨g.h1, g.le10⟩
section
variable {P : Program} {w : World}
variable {K : PySem.W.Frag} {mg : Str → Option Value} {base : Heap}
/-- the board's == -/
def spBEq (K : PySem.W.Frag) : Sp := fun vs H Q _ => ∃ (B : Boards) (v u : V), vs = [v, u] ∧ (BoP K B).p H v ∧ (BoP K B).p H u ∧ ∀ H', Same H H' → Q (.bl true) H'
theorem ok_beq (T : Ty K mg) : MethOk P w K mg base 1 "Board" "__eq__" (spBEq K) := by
  refine T.tx.m_Board___eq__ (fun vs H Q E ⟨B, v, u, ev, _⟩ => by subst ev; rfl) fun X vs H Q E ⟨f, cdv, A, outer, s, e⟩ G ⟨B, v, u, ev, hv, hu, q⟩ => ?_
  subst e ev
  have E := env_p (N := N_Board___eq__) (Ps' := [BoP K B, BoP K B]) (vs := [v, u]) (H := H) (.cons hv (.cons hu .nil))
  refine s_ret E (P := fun H v => Rep H (.bl true) v) (ER.is (er_and (k := true) (l := decide (B = B)) (er_isiO T.tx.n_isinstance T.cB (isi_of (T.xisi (C := "Board") (by decide))) (stb_PP (BoP K B)) BoP.ins (ed_var 1 rfl) (ed_cls T.tx.g_Board)) fun _ => ?_) (by rw [decide_eq_true rfl]; rfl)) fun v H' s r => by cases r; exact q H' s
  exact er_cmpR (op_eqD G.hu64) (by rfl) (ed_fld T.cB (T.noat 103 rfl) (ED.imp (P := (BoP K B).p) (ed_var 0 rfl) fun H v ⟨a, e, dx, v1, v2, d, h, r1, r2, r3⟩ => ⟨a, dx, _, v1, e, h, rfl, r1⟩)) (ed_fld T.cB (T.noat 103 rfl) (ED.imp (P := (BoP K B).p) (ed_var 1 rfl) fun H v ⟨a, e, dx, v1, v2, d, h, r1, r2, r3⟩ => ⟨a, dx, _, v1, e, h, rfl, r1⟩)) fun x' y' H p1 p2 Q q => ⟨_, _, (enc_row.tup).dp p1, (enc_row.tup).dp p2, (enc_row.tup).sh (by decide) _, (enc_row.tup).sh (by decide) _, by rw [(enc_row.tup).eqd]; exact q⟩
/-- dot in board -/
def spBIn (K : PySem.W.Frag) : Sp := fun vs H Q _ => ∃ (B : Boards) (p : Dot) (v u : V), vs = [v, u] ∧ (BoP K B).p H v ∧ Rep H (dDot p) u ∧ 0 ≤ p.1 ∧ 0 ≤ p.2 ∧ ∀ H', Same H H' → Q (.bl (decide (p ∈ dotsOf B))) H'
theorem ok_bin (T : Ty K mg) : MethOk P w K mg base 2 "Board" "__contains__" (spBIn K) := by
  refine T.tx.m_Board___contains__ (fun vs H Q E ⟨B, p, v, u, ev, _⟩ => by subst ev; rfl) fun X vs H Q E ⟨f, cdv, A, outer, s, e⟩ G ⟨B, p, v, u, ev, ⟨a, eva, dx, v1, v2, d, ha, r1, r2, hD⟩, hu, p1, p2, q⟩ => ?_
  subst e ev eva
  have E := env_p (N := N_Board___contains__) (Ps' := [rf a, R (dDot p)]) (vs := [.ref a, u]) (H := H) (.cons rfl (.cons hu .nil))
  refine s_skip E (.is (td_or (td_not (td_val (er_call (ok_is_pair T.tx) (G.mono (by decide)) [.int p.1, .int p.2] trivial (ad_one (er_var 1 rfl))))) fun _ => td_not (td_val (er_all G.calm T.tx.n_all (bs := [p.1, p.2].map fun i => intB i 0 none) (.imp (ed_lc (L := [p.1, p.2]) (enc := fun i : Int => D.int i) (fun _ => true) (fun i => .bl (intB i 0 none)) G [("number", 2)] (src_tup (er_var 1 rfl)) (blkOk_by (N := N_Board___contains__) (sc := defScope s_Board___contains__) (by decide +kernel)) (by show 2 < 100000; decide) (fun s H0 C cl fp x hx => tg_name 2 G.nd)
    (fun s H0 C cl fp x hx => ts_nil) fun s H0 C cl fp x hx _ => er_call (ok_int2 T.tx) (GX.mono G.bk (by decide)) (x, 0) trivial (ad_cons (er_var 2 rfl) (ad_one er_int))) fun H v h => ?_)))) ?_) fun H1 s1 E1 => ?_
  · rw [filter_tt] at h
    rw [List.map_map]; exact h
  · have h1 : intB p.1 0 none = true := by unfold intB; rw [decide_eq_true p1]; rfl
    have h2 : intB p.2 0 none = true := by unfold intB; rw [decide_eq_true p2]; rfl
    simp [h1, h2]
  · refine s_ret E1 (P := fun H v => Rep H (.bl (decide (p ∈ dotsOf B))) v) (ER.is (er_din (m := allT (dotsOf B)) keyE_dot G (hD.le (.of s1)).r (ed_fldAt (u := .ref d) T.cB (T.noat 105 rfl) (s1 _ _ ha) rfl (ed_var 0 rfl)) (er_var 1 rfl)) (by rw [getM_allT]; congr 1; exact decide_eq_decide.mpr Iff.rfl)) fun v H' s r => by cases r; exact q H' (s1.trans s)
end
end K31
namespace K31
open L2 PySem PySem.Spec PyProof.Rows
theorem allT_pl {κ : Type} : ∀ l : List κ, D.plL ((allT l).map (·.2)) = true
  | [] => rfl
  | _ :: l => allT_pl l
/-- a dict with plain values when an instance is written -/
theorem DictT.putI {κ : Type} {ke : κ → List Key} {H : Hp} {d x : Addr} {m : List (κ × D)} {o o' : HO} (h : DictT ke H d m) (hx : H x = some o) (ho : ∀ xs, o ≠ .tup xs) (hd : ∀ kvs, o ≠ .dT kvs) (hp : D.plL (m.map (·.2)) = true) : DictT ke (upd H x o') d m := by
  obtain ⟨vs, e, r⟩ := h
  exact ⟨vs, by rw [upd_ne (fun z => by subst z; rw [hx] at e; cases e; exact hd _ rfl)]; exact e, r.putI hx ho hp⟩
theorem DictT.frz {κ : Type} {ke : κ → List Key} {H : Hp} {d : Addr} {m : List (κ × D)} (h : DictT ke H d m) {u : HO} (hu : H d = some u) (od : Obj) : DictF ke (upd H d (.frz od u)) d m := by
  obtain ⟨vs, e, r⟩ := h
  rw [hu] at e; cases e
  exact ⟨vs, od, upd_same, r.le (Le.upd hu rfl)⟩
section
variable {P : Program} {w : World}
variable {K : PySem.W.Frag} {mg : Str → Option Value} {base : Heap}
theorem ok_binit (T : Ty K mg) : MethOk P w K mg base 3 "Board" "__init__" (fun vs H Q E => ∃ B, spMk (He.ga K "Board") (fun H vs => RepL H [dRows B] vs ∧ GoodB B) (BoP K B).p vs H Q E) := by
  refine T.tx.m_Board___init__ (fun vs H Q E ⟨B, x, dx, vs', H0, ev, _, _, _, _, ⟨r, _⟩, _⟩ => by subst ev; have := r.length; simp at this; simp [← this]) fun X vs H Q E ⟨f, cdv, A, outer, s, e⟩ G ⟨B, x, dx, vs', H0, ev, eH, hx, hdx, hne, ⟨r, hB⟩, q⟩ => ?_
  subst e ev
  obtain ⟨vr, rfl, rr⟩ := r.one
  have E0 : Env [some (rf x), some (R (dRows B)), none, none, none, none, none] (L2.start N_Board___init__ [.ref x, vr]) H0 := env_p (N := N_Board___init__) (Ps' := [rf x, R (dRows B)]) (vs := [.ref x, vr]) (H := H0) (.cons rfl (.cons rr .nil))
  have sH : Same H0 H := by rw [eH]; exact same_new hx hdx
  have hxH : H x = some (.ins (He.ga K "Board") dx []) := by rw [eH]; exact upd_same
  have hd := hB.dim
  refine s_skip (E0.same sH) (.is (td_not (td_val (er_call (ok_are_rows T.tx) (G.mono (by decide)) B hB (ad_one (er_var 1 rfl))))) rfl) fun H1 s1 E1 => ?_
  have hx1 := s1 _ _ hxH
  refine s_fld T.cB (T.noat 103 rfl) E1 hx1 (by decide) stb_R (fun Hz => ed_var 0 rfl) (er_var 1 rfl) fun v1 H2 s2 r1 => ?_
  have hx2 := s2 _ _ hx1
  have r1b := Rep.putI (o' := .ins (He.ga K "Board") dx (putF "own_rows" v1 [])) hx2 (by intro _ z; cases z) r1 (pl_rows B)
  have s02 := same_put (o := .ins (He.ga K "Board") dx (putF "own_rows" v1 [])) ((sH.trans s1).trans s2) hx
  have hx3 : (upd H2 x (.ins (He.ga K "Board") dx (putF "own_rows" v1 []))) x = some (.ins (He.ga K "Board") dx [("own_rows", v1)]) := upd_same
  generalize upd H2 x (.ins (He.ga K "Board") dx (putF "own_rows" v1 [])) = H3 at r1b s02 hx3 ⊢
  refine s_fld (P := fun H v => Rep H (dLit (dotsOf B)) v) T.cB (T.noat 104 rfl) (E0.same s02) hx3 (by show 1 < 1000; decide) stb_R (fun Hz => ed_var 0 rfl) (er_tupL T.tx.n_tuple (.imp (ed_lc2 (L := B.zipIdx) (enc := fun x => .tup [.int (x.2 : Nat), .str (mkRow x.1)]) (M := fun x => x.1.zipIdx) (enc1 := fun _ y => .tup [.int (y.2 : Nat), .str ⟨#[if y.1 = true then 111 else 46]⟩]) (fun _ y => y.1) (fun x y => dDot ((x.2 : Nat), (y.2 : Nat))) G [("row", 2), ("signs", 3), ("column", 4), ("sign", 5)] [4, 5] (by decide)
      (.is (srcT_enumT T.tx.n_enumerate (er_var 1 rfl)).src (by unfold enumD; rw [List.zipIdx_map, List.map_map]; rfl)) (blkOk_by (N := N_Board___init__) (sc := defScope s_Board___init__) (by decide +kernel)) (by rw [List.length_zipIdx]; have := hd.1; omega) (fun x hx => by
        rw [List.length_zipIdx]
        have h1 := List.mem_zipIdx hx
        have := hd.2 x.1 (by rw [h1.2.2]; exact List.getElem_mem _)
        omega)
      (fun s H0 C cl fp x hx => tg_tup2V 2 3 (by decide) (by decide) G.nd G.calm)
      (fun s H0 C cl fp x hx => .is (srcT_enumS (z := mkRow x.1) T.tx.n_enumerate (er_var 3 rfl)) (by unfold enumD mkRow; rw [List.map_map, List.zipIdx_map, List.map_map]; rfl))
      (fun s H0 C cl fp x hx y hy => tg_tup2V 4 5 (by decide) (by decide) G.nd G.calm)
      (fun s H0 C cl fp x hx y hy => ts_one (.is (td_eqS (er_var 5 rfl) (er_gstr (by rfl) T.tx.c_DOT)) (str_o y.1)))
      fun s H0 C cl fp x hx y hy _ => er_t2 (er_var 2 rfl) (er_var 4 rfl)) fun H v h => by rw [dots_flat] at h; exact h)) fun v2 H4 s4 r2 => ?_
  have hx4 := s4 _ _ hx3
  have r1c := Rep.putI (o' := .ins (He.ga K "Board") dx (putF "own_dots" v2 [("own_rows", v1)])) hx4 (by intro _ z; cases z) (r1b.le (.of s4)) (pl_rows B)
  have r2b := Rep.putI (o' := .ins (He.ga K "Board") dx (putF "own_dots" v2 [("own_rows", v1)])) hx4 (by intro _ z; cases z) r2 (pl_lit _)
  have s04 := same_put (o := .ins (He.ga K "Board") dx (putF "own_dots" v2 [("own_rows", v1)])) (s02.trans s4) hx
  have hx5 : (upd H4 x (.ins (He.ga K "Board") dx (putF "own_dots" v2 [("own_rows", v1)]))) x = some (.ins (He.ga K "Board") dx [("own_rows", v1), ("own_dots", v2)]) := upd_same
  generalize upd H4 x (.ins (He.ga K "Board") dx (putF "own_dots" v2 [("own_rows", v1)])) = H5 at r1c r2b s04 hx5 ⊢
  refine s_fld (P := fun H v => ∃ d, v = .ref d ∧ H5 d = none ∧ DictT keDot H d (allT (dotsOf B))) T.cB (T.noat 105 rfl) (E0.same s04) hx5 (by show 2 < 1000; decide) ⟨fun s ⟨d, e, n, h⟩ => ⟨d, e, n, h.same s⟩⟩ (fun Hz => ed_var 0 rfl) (ed_dcT (kd := dDot) keyE_dot G [("dot", 6)] (src_tup (er_fldAt T.cB (T.noat 104 rfl) hx5 rfl r2b (ed_var 0 rfl))) (blkOk_by (N := N_Board___init__) (sc := defScope s_Board___init__) (by decide +kernel)) (by have := hB.dots_len; omega) (lit_all B).nodup
      (fun s H0 C cl fp x hx => tg_name 6 G.nd) (fun s H0 C cl fp x hx => er_var 6 rfl) fun s H0 C cl fp x hx => er_bl) fun v3 H6 s6 ⟨d, ev, hdn, hD⟩ => ?_
  subst ev
  have hx6 := s6 _ _ hx5
  have r1d := Rep.putI (o' := .ins (He.ga K "Board") dx (putF "own_at" (.ref d) [("own_rows", v1), ("own_dots", v2)])) hx6 (by intro _ z; cases z) (r1c.le (.of s6)) (pl_rows B)
  have r2c := Rep.putI (o' := .ins (He.ga K "Board") dx (putF "own_at" (.ref d) [("own_rows", v1), ("own_dots", v2)])) hx6 (by intro _ z; cases z) (r2b.le (.of s6)) (pl_lit _)
  have hDb := hD.putI (o' := .ins (He.ga K "Board") dx (putF "own_at" (.ref d) [("own_rows", v1), ("own_dots", v2)])) hx6 (by intro _ z; cases z) (by intro _ z; cases z) (allT_pl _)
  have hxd : x ≠ d := fun z => by obtain ⟨_, e, _⟩ := hD; rw [← z, hx6] at e; cases e
  have hd0 : H0 d = none := by
    cases h : H0 d with
    | none => rfl
    | some o => rw [s04 _ _ h] at hdn; cases hdn
  have s06 := same_put (o := .ins (He.ga K "Board") dx (putF "own_at" (.ref d) [("own_rows", v1), ("own_dots", v2)])) (s04.trans s6) hx
  have hx7 : (upd H6 x (.ins (He.ga K "Board") dx (putF "own_at" (.ref d) [("own_rows", v1), ("own_dots", v2)]))) x = some (.ins (He.ga K "Board") dx [("own_rows", v1), ("own_dots", v2), ("own_at", .ref d)]) := upd_same
  generalize upd H6 x (.ins (He.ga K "Board") dx (putF "own_at" (.ref d) [("own_rows", v1), ("own_dots", v2)])) = H7 at r1d r2c hDb s06 hx7 ⊢
  obtain ⟨us, hd7, _⟩ := id hDb
  refine s_freeze hd7 trivial fun od => s_nil ?_
  have le7 : Le H7 (upd H7 d (.frz od (.dT ((List.map (fun e => keDot e.1) (allT (dotsOf B))).zip us)))) := Le.upd hd7 rfl
  exact q _ (same_put s06 hd0) ⟨x, rfl, dx, v1, v2, d, by rw [upd_ne hxd]; exact hx7, r1d.le le7, r2c.le le7, hDb.frz hd7 od⟩
end
end K31
namespace K31
open L2 PySem PySem.Spec PyProof.Rows
/-- just this value -/
def vq (u : V) : PP := ⟨fun _ v => v = u, fun _ h => h⟩
/-- just this value, of which P is known -/
def Ex (u : V) (P : PP) : PP := ⟨fun H v => v = u ∧ P.p H v, fun l ⟨e, h⟩ => ⟨e, P.le l h⟩⟩
section
variable {X : Cx} {Hz : Hp} {ρ : Rho} {o e a b : Expr} {es : List Expr} {pos p apos : Pos} {k : Nat} {B : Boards} {l : List Dot} {f : Films} {d : Dot}
theorem er_inB (T : Ty X.K X.mg) (G : GX X 2) (h1 : 0 ≤ d.1) (h2 : 0 ≤ d.2) (ha : ER X Hz ρ a (dDot d)) (hb : ED X Hz ρ b (BoP X.K B).p) (hm : behindInMarks .In b = false := by rfl) : ER X Hz ρ (.Compare a [.In] [b] pos) (.bl (decide (d ∈ dotsOf B))) := by
  have M := T.methX (x := "Board") (m := "__contains__") (by simp [exFa])
  refine er_cmp2 (op_inO M.at_ M.fn (ok_bin (P := X.prog) (w := X.w) (base := X.base) T) G.room) hm stb_R ha hb fun x y H s px py Q q => ?_
  obtain ⟨aa, dx, fs, rfl, ha⟩ := BoP.ins H y py
  exact ⟨aa, dx, fs, rfl, ha, B, d, _, _, rfl, py, px, h1, h2, fun H' s' => ⟨_, rfl, q H' s'⟩⟩
theorem er_eqB (T : Ty X.K X.mg) (G : GX X 1) (ha : ED X Hz ρ a (BoP X.K B).p) (hb : ED X Hz ρ b (BoP X.K B).p) (hm : behindInMarks .Eq b = false := by rfl) : ER X Hz ρ (.Compare a [.Eq] [b] pos) (.bl true) := by
  have M := T.methX (x := "Board") (m := "__eq__") (by simp [exFa])
  refine er_cmp2 (op_eqO M.at_ M.fn (ok_beq (P := X.prog) (w := X.w) (base := X.base) T) G.room) hm (stb_PP (BoP X.K B)) ha hb fun x y H s px py Q q => ?_
  obtain ⟨aa, dx, fs, rfl, ha⟩ := BoP.ins H x px
  obtain ⟨bb, dy, gs, rfl, hb⟩ := BoP.ins H y py
  exact ⟨aa, dx, fs, bb, dy, gs, rfl, rfl, ha, hb, B, _, _, rfl, px, py, fun H' s' => ⟨_, rfl, q H' s'⟩⟩
end
theorem ed_herePP {X : Cx} {Hz : Hp} {ρ : Rho} {o : Expr} {a : Addr} {P : PP} (h : P.p Hz (.ref a)) (ho : ED X Hz ρ o (rf a).p) : ED X Hz ρ o P.p := ⟨fun σ H Q E q => ho.run σ H Q E fun v H1 s1 ev => q v H1 s1 (by obtain rfl : v = .ref a := ev; exact P.le (.of (E.s0.trans s1)) h)⟩
theorem dots_nn {B : Boards} {d : Dot} (h : d ∈ dotsOf B) : 0 ≤ d.1 ∧ 0 ≤ d.2 := by
  obtain ⟨h1, h2, h3, _⟩ := dotsFrom_fst h
  exact ⟨by omega, h3⟩
section
variable {P : Program} {w : World}
variable {K : PySem.W.Frag} {mg : Str → Option Value} {base : Heap}
theorem ok_are_dots (T : Ty K mg) : DefOk P w K mg base 3 "are_dots" (fun vs H Q _ => ∃ (B : Boards) (l : List Dot) (v u : V), vs = [v, u] ∧ (BoP K B).p H v ∧ Rep H (dLit l) u ∧ Lit B l ∧ GoodB B ∧ ∀ H', Same H H' → Q (.bl true) H') := by
  refine T.tx.d_are_dots (fun vs H Q E ⟨B, l, v, u, ev, _⟩ => by subst ev; rfl) fun X vs H Q E ⟨f, cdv, A, outer, s, e⟩ G ⟨B, l, v, u, ev, hv, hu, hl, hB, q⟩ => ?_
  subst e ev
  have E := env_p (N := N_are_dots) (Ps' := [BoP K B, R (dLit l)]) (vs := [v, u]) (H := H) (.cons hv (.cons hu .nil))
  have hlen := hl.len hB
  refine s_ret E (P := fun H v => Rep H (.bl true) v) (ER.is (er_and3 (k := true) (l := true) (m := true) (er_isi T.tx.n_isinstance rfl k_tup_tup (er_var 1 rfl) (ed_bty T.tx.n_tuple (by decide +kernel))) (fun _ => .is (er_all G.calm T.tx.n_all (bs := l.map fun _ => true) (.imp (ed_lc (L := l) (enc := dDot) (fun _ => true) (fun d => .bl (decide (d ∈ dotsOf B))) G [("dot", 2)] (src_tup (er_var 1 rfl)) (blkOk_by (N := N_are_dots) (sc := defScope s_are_dots) (by decide +kernel)) (by omega) (fun s H0 C cl fp x hx => tg_name 2 G.nd)
    (fun s H0 C cl fp x hx => ts_nil) fun s H0 C cl fp x hx _ => er_inB T (GX.mono G.bk (by decide)) (dots_nn (hl.2 x hx)).1 (dots_nn (hl.2 x hx)).2 (er_var 2 rfl) (ed_var 0 rfl)) fun H v h => ?_)) (by simp)) fun _ _ => er_call (ok_risingD T.tx) (G.mono (by decide)) l ⟨hl.1, by omega⟩ (ad_one (er_var 1 rfl))) rfl) fun v H' s r => by cases r; exact q H' s
  rw [filter_tt] at h
  rw [List.map_map]
  have : l.map (fun d => D.bl (decide (d ∈ dotsOf B))) = l.map (D.bl ∘ fun _ => true) := List.map_congr_left fun x hx => by show D.bl _ = D.bl true; rw [decide_eq_true (hl.2 x hx)]
  rw [← this]
  exact h
theorem ok_pinit (T : Ty K mg) : MethOk P w K mg base 4 "Picture" "__init__" (fun vs H Q E => ∃ (B : Boards) (l : List Dot), spMk (He.ga K "Picture") (fun H vs => ∃ v u, vs = [v, u] ∧ (BoP K B).p H v ∧ Rep H (dLit l) u ∧ Lit B l ∧ GoodB B) (PiP K B l).p vs H Q E) := by
  have key := T.tx.m_Picture___init__ (P := P) (w := w) (base := base) (k := 3) (sp := fun vs H Q E => ∃ (B : Boards) (l : List Dot), spMk (He.ga K "Picture") (fun H vs => ∃ v u, vs = [v, u] ∧ (BoP K B).p H v ∧ Rep H (dLit l) u ∧ Lit B l ∧ GoodB B) (PiP K B l).p vs H Q E) (fun vs H Q E ⟨B, l, x, dx, vs', H0, ev, _, _, _, _, ⟨v, u, e2, _⟩, _⟩ => by subst ev e2; rfl) fun X vs H Q E ⟨f, cdv, A, outer, s, e⟩ G ⟨B, l, x, dx, vs', H0, ev, eH, hx, hdx, hne, ⟨v, u, e2, hv, hu, hl, hB⟩, q⟩ => ?_
  · exact FnR.imp key fun vs H Q E h => by rw [List.append_nil]; exact h
  subst e ev e2
  have E0 : Env [some (rf x), some (Ex v (BoP K B)), some (Ex u (R (dLit l))), none] (L2.start N_Picture___init__ [.ref x, v, u]) H0 := env_p (N := N_Picture___init__) (Ps' := [rf x, Ex v (BoP K B), Ex u (R (dLit l))]) (vs := [.ref x, v, u]) (H := H0) (.cons rfl (.cons ⟨rfl, hv⟩ (.cons ⟨rfl, hu⟩ .nil)))
  have sH : Same H0 H := by rw [eH]; exact same_new hx hdx
  have hxH : H x = some (.ins (He.ga K "Picture") dx []) := by rw [eH]; exact upd_same
  have hlen := hl.len hB
  refine s_skip (E0.same sH) (.is (td_not (td_val (ed_call (P := fun H v => Rep H (.bl true) v) (A := Ps [(Ex v (BoP K B)).p, (Ex u (R (dLit l))).p]) (ok_are_dots T) (G.mono (by decide)) (ap_cons (stb_PP _) (ed_var 1 rfl) (ap_cons (stb_PP _) (ed_var 2 rfl) ap_nil)) fun vs H1 h Q q => ?_))) rfl) fun H1 s1 E1 => ?_
  · obtain ⟨a, _, rfl, ⟨_, pa⟩, b, _, rfl, ⟨_, pb⟩, rfl⟩ := h
    exact ⟨B, l, a, b, rfl, pa, pb, hl, hB, fun H' s' => q _ H' s' (.bl _)⟩
  have hx1 := s1 _ _ hxH
  refine s_fld T.cP (T.noat 108 rfl) E1 hx1 (by show 0 < 1000; decide) (stb_PP (Ex v (BoP K B))) (fun Hz => ed_var 0 rfl) (ed_var 1 rfl) fun v1 H2 s2 ⟨e1, _⟩ => ?_
  subst e1
  have hx2 := s2 _ _ hx1
  have s02 := same_put (o := .ins (He.ga K "Picture") dx (putF "own_board" v1 [])) ((sH.trans s1).trans s2) hx
  have hx3 : (upd H2 x (.ins (He.ga K "Picture") dx (putF "own_board" v1 []))) x = some (.ins (He.ga K "Picture") dx [("own_board", v1)]) := upd_same
  generalize upd H2 x (.ins (He.ga K "Picture") dx (putF "own_board" v1 [])) = H3 at s02 hx3 ⊢
  refine s_fld T.cP (T.noat 109 rfl) (E0.same s02) hx3 (by show 1 < 1000; decide) (stb_PP (Ex u (R (dLit l)))) (fun Hz => ed_var 0 rfl) (ed_var 2 rfl) fun v2 H4 s4 ⟨e2, _⟩ => ?_
  subst e2
  have hx4 := s4 _ _ hx3
  have s04 := same_put (o := .ins (He.ga K "Picture") dx (putF "own_dots" v2 [("own_board", v1)])) (s02.trans s4) hx
  have hx5 : (upd H4 x (.ins (He.ga K "Picture") dx (putF "own_dots" v2 [("own_board", v1)]))) x = some (.ins (He.ga K "Picture") dx [("own_board", v1), ("own_dots", v2)]) := upd_same
  generalize upd H4 x (.ins (He.ga K "Picture") dx (putF "own_dots" v2 [("own_board", v1)])) = H5 at s04 hx5 ⊢
  refine s_fld (P := fun H v => ∃ d, v = .ref d ∧ H5 d = none ∧ DictT keDot H d (allT l)) T.cP (T.noat 110 rfl) (E0.same s04) hx5 (by show 2 < 1000; decide) ⟨fun s ⟨d, e, n, h⟩ => ⟨d, e, n, h.same s⟩⟩ (fun Hz => ed_var 0 rfl) (ed_dcT (kd := dDot) keyE_dot G [("dot", 3)] (src_tup (ED.imp (ed_var (P := Ex v2 (R (dLit l))) 2 rfl) fun H v h => h.2)) (blkOk_by (N := N_Picture___init__) (sc := defScope s_Picture___init__) (by decide +kernel)) (by omega) hl.nodup
      (fun s H0 C cl fp x hx => tg_name 3 G.nd) (fun s H0 C cl fp x hx => er_var 3 rfl) fun s H0 C cl fp x hx => er_bl) fun v3 H6 s6 ⟨d, ev, hdn, hD⟩ => ?_
  subst ev
  have hx6 := s6 _ _ hx5
  have hDb := hD.putI (o' := .ins (He.ga K "Picture") dx (putF "own_lit" (.ref d) [("own_board", v1), ("own_dots", v2)])) hx6 (by intro _ z; cases z) (by intro _ z; cases z) (allT_pl _)
  have hxd : x ≠ d := fun z => by obtain ⟨_, e, _⟩ := hD; rw [← z, hx6] at e; cases e
  have hd0 : H0 d = none := by
    cases h : H0 d with
    | none => rfl
    | some o => rw [s04 _ _ h] at hdn; cases hdn
  have s06 := same_put (o := .ins (He.ga K "Picture") dx (putF "own_lit" (.ref d) [("own_board", v1), ("own_dots", v2)])) (s04.trans s6) hx
  have hx7 : (upd H6 x (.ins (He.ga K "Picture") dx (putF "own_lit" (.ref d) [("own_board", v1), ("own_dots", v2)]))) x = some (.ins (He.ga K "Picture") dx [("own_board", v1), ("own_dots", v2), ("own_lit", .ref d)]) := upd_same
  generalize upd H6 x (.ins (He.ga K "Picture") dx (putF "own_lit" (.ref d) [("own_board", v1), ("own_dots", v2)])) = H7 at hDb s06 hx7 ⊢
  obtain ⟨us, hd7, _⟩ := id hDb
  refine s_freeze hd7 trivial fun od => s_nil ?_
  have s08 := same_put (o := .frz od (.dT ((List.map (fun e => keDot e.1) (allT l)).zip us))) s06 hd0
  exact q _ s08 ⟨x, rfl, dx, v1, v2, d, by rw [upd_ne hxd]; exact hx7, (BoP K B).le (.of s08) hv, hu.le (.of s08), hDb.frz hd7 od⟩
/-- dot in picture -/
theorem ok_pin (T : Ty K mg) : MethOk P w K mg base 3 "Picture" "__contains__" (fun vs H Q _ => ∃ (B : Boards) (l : List Dot) (d : Dot) (v u : V), vs = [v, u] ∧ (PiP K B l).p H v ∧ Rep H (dDot d) u ∧ d ∈ dotsOf B ∧ ∀ H', Same H H' → Q (.bl (decide (d ∈ l))) H') := by
  refine T.tx.m_Picture___contains__ (fun vs H Q E ⟨B, l, d, v, u, ev, _⟩ => by subst ev; rfl) fun X vs H Q E ⟨f, cdv, A, outer, s, e⟩ G ⟨B, l, d, v, u, ev, ⟨a, eva, dx, v1, v2, dd, ha, r1, r2, hD⟩, hu, hd, q⟩ => ?_
  subst e ev eva
  have E := env_p (N := N_Picture___contains__) (Ps' := [rf a, R (dDot d)]) (vs := [.ref a, u]) (H := H) (.cons rfl (.cons hu .nil))
  have hp : (PiP K B l).p H (.ref a) := ⟨a, rfl, dx, v1, v2, dd, ha, r1, r2, hD⟩
  refine s_ret E (P := fun H v => Rep H (.bl (decide (d ∈ l))) v) (ER.is (er_and (er_inB (B := B) T (G.mono (by decide)) (dots_nn hd).1 (dots_nn hd).2 (er_var 1 rfl) (ed_pboard (B := B) (l := l) T (ed_herePP hp (ed_var 0 rfl)))) fun _ => .is (er_din (m := allT l) keyE_dot G hD.r (ed_fldAt (u := .ref dd) T.cP (T.noat 110 rfl) ha rfl (ed_var 0 rfl)) (er_var 1 rfl)) (by rw [getM_allT])) (by rw [decide_eq_true hd, Bool.true_and]; congr 1; exact decide_eq_decide.mpr Iff.rfl)) fun v H' s r => by cases r; exact q H' s
end
end K31
namespace K31
open L2 PySem PySem.Spec PyProof.Rows
theorem atI_litG {α : Type} {g : List Dot → α} {f : List (List Dot)} {t : Int} (h : 0 < f.length) : atI (f.map g) (t % f.length) = some (g (litAt f t)) := by
  have h1 : 0 ≤ t % (f.length : Int) := Int.emod_nonneg _ (by omega)
  have h2 : t % (f.length : Int) < f.length := Int.emod_lt_of_pos _ (by omega)
  obtain ⟨j, hj⟩ : ∃ j : Nat, t % (f.length : Int) = j := ⟨(t % (f.length : Int)).toNat, by omega⟩
  rw [hj] at h2 ⊢
  have hjl : j < f.length := by omega
  refine atI_nat ?_
  rw [List.getElem?_map, List.getElem?_eq_getElem hjl]
  unfold litAt
  rw [hj, Int.toNat_natCast, List.getD_eq_getElem?_getD, List.getElem?_eq_getElem hjl]
  rfl
/-- these very values -/
def exL (vs : List V) : List D := vs.map fun v => .obj (vq v)
theorem repL_ex {H : Hp} : ∀ vs : List V, RepL H (exL vs) vs
  | [] => .nil
  | v :: vs => .cons (.obj rfl) (repL_ex vs)
section
variable {X : Cx} {Hz : Hp} {ρ : Rho} {e : Expr} {es : List Expr} {p : Pos}
/-- *e ahead of further arguments -/
theorem ad_star {ds es' : List D} (h : ER X Hz ρ e (.tup ds)) (hr : AD X Hz ρ es (fun H vs => RepL H es' vs)) (hs : starEach (.Starred e p :: es) X.env = (true, eval e X.env) :: starEach es X.env := by rfl) : AD X Hz ρ (.Starred e p :: es) (fun H vs => RepL H (ds ++ es') vs) := by
  refine ⟨fun σ H Q E q => .by (StX.pa_star pe_W pa_W hs) ?_⟩
  refine h.run σ H _ E fun v H1 s1 r1 => ?_
  have r2 : ∀ {H2}, Same H1 H2 → Rep H2 (.tup ds) v := fun s => r1.le (.of s)
  cases r1 with
  | @tup a vs _ h1 rl =>
    refine ⟨a, vs, rfl, .inl (SqT.of h1), ?_⟩
    refine hr.run σ H1 _ (E.same s1) fun us H2 s2 r3 => ?_
    exact q _ H2 (s1.trans s2) ((rl.le (.of s2)).append r3)
end
section
variable {P : Program} {w : World}
variable {K : PySem.W.Frag} {mg : Str → Option Value} {base : Heap}
theorem ok_are_pics (T : Ty K mg) : DefOk P w K mg base 2 "are_pictures" (fun vs H Q _ => ∃ (B : Boards) (f : Films) (u : V), vs = [u] ∧ Rep H (oPs K B f) u ∧ 0 < f.length ∧ f.length ≤ 12 ∧ ∀ H', Same H H' → Q (.bl true) H') := by
  refine T.tx.d_are_pictures (fun vs H Q E ⟨B, l, u, ev, _⟩ => by subst ev; rfl) fun X vs H Q E ⟨f, cdv, A, outer, s, e⟩ G ⟨B, fm, u, ev, hu, h0, h1, q⟩ => ?_
  subst e ev
  have E := env_p (N := N_are_pictures) (Ps' := [R (oPs K B fm)]) (vs := [u]) (H := H) (.cons hu .nil)
  have dlen : (fm.map (oP K B)).length = fm.length := List.length_map ..
  refine s_skip E (.is (td_or (td_not (td_val (er_call (ok_is_tuple T.tx) (G.mono (by decide)) (fm.map (oP K B), 12) trivial (ad_cons (er_var 0 rfl) (ad_one (er_gint (by rfl) T.tx.c_MOST_PICTURES)))))) fun _ => td_not (td_val (er_all G.calm T.tx.n_all (bs := fm.map fun _ => true) (.imp (ed_lc (L := fm) (enc := oP K B) (fun _ => true) (fun _ => .bl true) G [("picture", 1)] (src_tup (er_var 0 rfl)) (blkOk_by (N := N_are_pictures) (sc := defScope s_are_pictures) (by decide +kernel)) (by omega) (fun s H0 C cl fp x hx => tg_name 1 G.nd)
    (fun s H0 C cl fp x hx => ts_nil) fun s H0 C cl fp x hx _ => er_isiO T.tx.n_isinstance T.cP (isi_of (T.xisi (C := "Picture") (by decide))) (stb_PP (PiP K B x)) PiP.ins (ed_obj (er_var 1 rfl)) (ed_cls T.tx.g_Picture)) fun H v h => ?_)))) ?_) fun H1 s1 E1 => ?_
  · rw [filter_tt] at h
    rw [List.map_map]; exact h
  · dsimp only
    rw [dlen]
    have a1 : (1 : Int) ≤ (fm.length : Nat) := by omega
    have a2 : ((fm.length : Nat) : Int) ≤ 12 := by omega
    rw [decide_eq_true a1, decide_eq_true a2]; simp
  · obtain ⟨l0, f', rfl⟩ : ∃ l0 f', fm = l0 :: f' := by
      cases fm with
      | nil => exact absurd h0 (by decide)
      | cons a b => exact ⟨_, _, rfl⟩
    refine s_ret E1 (P := fun H v => Rep H (.bl true) v) (ER.is (er_all G.calm T.tx.n_all (bs := (l0 :: f').map fun _ => true) (.imp (ed_lc (L := l0 :: f') (enc := oP K B) (fun _ => true) (fun _ => .bl true) G [("picture", 1)] (src_tup (er_var 0 rfl)) (blkOk_by (N := N_are_pictures) (sc := defScope s_are_pictures) (by decide +kernel)) (by omega) (fun s H0 C cl fp x hx => tg_name 1 G.nd)
      (fun s H0 C cl fp x hx => ts_nil) fun s H0 C cl fp x hx _ => er_eqB (B := B) T (GX.mono G.bk (by decide)) (ed_pboard (B := B) (l := x) T (ed_obj (er_var 1 rfl))) (ed_pboard (B := B) (l := l0) T (ed_obj (er_ixt (er_var 0 rfl) er_int (atI_nat (j := 0) rfl))))) fun H v h => ?_)) (by simp)) fun v H' s r => by cases r; exact q H' (s1.trans s)
    rw [filter_tt] at h
    rw [List.map_map]; exact h
theorem ok_finit (T : Ty K mg) : MethOk P w K mg base 3 "Film" "__init__" (fun vs H Q E => ∃ (B : Boards) (f : Films), spMk (He.ga K "Film") (fun H vs => ∃ u, vs = [u] ∧ Rep H (oPs K B f) u ∧ 0 < f.length ∧ f.length ≤ 12) (FiP K B f).p vs H Q E) := by
  refine T.tx.m_Film___init__ (fun vs H Q E ⟨B, l, x, dx, vs', H0, ev, _, _, _, _, ⟨u, e2, _⟩, _⟩ => by subst ev e2; rfl) fun X vs H Q E ⟨f, cdv, A, outer, s, e⟩ G ⟨B, fm, x, dx, vs', H0, ev, eH, hx, hdx, hne, ⟨u, e2, hu, h0, h1⟩, q⟩ => ?_
  subst e ev e2
  obtain ⟨l0, f', rfl⟩ : ∃ l0 f', fm = l0 :: f' := by
    cases fm with
    | nil => exact absurd h0 (by decide)
    | cons a b => exact ⟨_, _, rfl⟩
  have hu' := id hu
  obtain ⟨t, us, rfl, ht, hr⟩ : ∃ t us, u = .ref t ∧ H0 t = some (.tup us) ∧ RepL H0 ((l0 :: f').map (oP K B)) us := by
    cases hu' with
    | tup h r => exact ⟨_, _, rfl, h, r⟩
  obtain ⟨u0, ut, rfl, hp0⟩ : ∃ u0 ut, us = u0 :: ut ∧ (PiP K B l0).p H0 u0 := by
    cases hr with
    | cons r1 r2 => cases r1 with | obj h => exact ⟨_, _, rfl, h⟩
  obtain ⟨a0, rfl, dx0, b1, b2, bd, ha0, hb1, _, _⟩ := hp0
  have hex : Rep H0 (.tup (exL (.ref a0 :: ut))) (.ref t) := .tup ht (repL_ex _)
  have E0 : Env [some (rf x), some (Ex (.ref t) (R (.tup (exL (.ref a0 :: ut)))))] (L2.start N_Film___init__ [.ref x, .ref t]) H0 := env_p (N := N_Film___init__) (Ps' := [rf x, Ex (.ref t) (R (.tup (exL (.ref a0 :: ut))))]) (vs := [.ref x, .ref t]) (H := H0) (.cons rfl (.cons ⟨rfl, hex⟩ .nil))
  have sH : Same H0 H := by rw [eH]; exact same_new hx hdx
  have hxH : H x = some (.ins (He.ga K "Film") dx []) := by rw [eH]; exact upd_same
  refine s_skip (E0.same sH) (.is (td_not (td_val (ed_callS (P := fun H v => Rep H (.bl true) v) (A := Ps [(Ex (.ref t) (R (.tup (exL (.ref a0 :: ut))))).p]) (ok_are_pics T) (G.mono (by decide)) (ap_cons (stb_PP _) (ed_var 1 rfl) ap_nil) fun vs H1 s1 h Q q => ?_))) rfl) fun H1 s1 E1 => ?_
  · obtain ⟨a, _, rfl, ⟨rfl, pa⟩, rfl⟩ := h
    exact ⟨B, l0 :: f', .ref t, rfl, hu.le (.of (sH.trans s1)), h0, h1, fun H' s' => q _ H' s' (.bl _)⟩
  have hx1 := s1 _ _ hxH
  refine s_fld T.cF (T.noat 113 rfl) E1 hx1 (by show 0 < 1000; decide) (stb_PP (Ex (.ref t) (R (.tup (exL (.ref a0 :: ut)))))) (fun Hz => ed_var 0 rfl) (ed_var 1 rfl) fun v1 H2 s2 ⟨e1, _⟩ => ?_
  subst e1
  have hx2 := s2 _ _ hx1
  have s02 := same_put (o := .ins (He.ga K "Film") dx (putF "own_pictures" (.ref t) [])) ((sH.trans s1).trans s2) hx
  have hx3 : (upd H2 x (.ins (He.ga K "Film") dx (putF "own_pictures" (.ref t) []))) x = some (.ins (He.ga K "Film") dx [("own_pictures", .ref t)]) := upd_same
  generalize upd H2 x (.ins (He.ga K "Film") dx (putF "own_pictures" (.ref t) [])) = H3 at s02 hx3 ⊢
  refine s_fld (P := fun _ v => v = b1) T.cF (T.noat 114 rfl) (E0.same s02) hx3 (by show 1 < 1000; decide) stb_eq (fun Hz => ed_var 0 rfl) (ed_fldAt T.cP (T.noat 108 rfl) (s02 _ _ ha0) rfl (ED.imp (ed_obj (P := vq (.ref a0)) (er_ixt (ds := exL (.ref a0 :: ut)) (ED.imp (ed_var (P := Ex (.ref t) (R (.tup (exL (.ref a0 :: ut))))) 1 rfl) fun H v h => h.2) er_int (atI_nat (j := 0) rfl))) fun H v h => h)) fun v2 H4 s4 e2 => ?_
  subst e2
  have hx4 := s4 _ _ hx3
  have s04 := same_put (o := .ins (He.ga K "Film") dx (putF "own_board" v2 [("own_pictures", .ref t)])) (s02.trans s4) hx
  have hx5 : (upd H4 x (.ins (He.ga K "Film") dx (putF "own_board" v2 [("own_pictures", .ref t)]))) x = some (.ins (He.ga K "Film") dx [("own_pictures", .ref t), ("own_board", v2)]) := upd_same
  refine s_nil (q _ s04 ⟨x, rfl, dx, .ref t, v2, hx5, hu.le (.of s04), (BoP K B).le (.of s04) hb1⟩)
theorem ok_pat (T : Ty K mg) : MethOk P w K mg base 1 "Film" "picture_at" (fun vs H Q _ => ∃ (B : Boards) (f : Films) (t : Int) (v u : V), vs = [v, u] ∧ (FiP K B f).p H v ∧ Rep H (.int t) u ∧ 0 < f.length ∧ ∀ z H', Same H H' → (PiP K B (litAt f t)).p H' z → Q z H') := by
  refine T.tx.m_Film_picture_at (fun vs H Q E ⟨B, l, t, v, u, ev, _⟩ => by subst ev; rfl) fun X vs H Q E ⟨f, cdv, A, outer, s, e⟩ G ⟨B, fm, t, v, u, ev, hv, hu, h0, q⟩ => ?_
  subst e ev
  have E := env_p (N := N_Film_picture_at) (Ps' := [FiP K B fm, R (.int t)]) (vs := [v, u]) (H := H) (.cons hv (.cons hu .nil))
  have dlen : (fm.map (oP K B)).length = fm.length := List.length_map ..
  refine s_ret E (ed_obj (P := PiP K B (litAt fm t)) (er_ixt (er_fpics T (ed_var 0 rfl)) (er_mod (j := fm.length) (by omega) (er_var 1 rfl) (.is (er_lenT T.tx.n_len (er_fpics (B := B) (f := fm) T (ed_var 0 rfl))) (by rw [List.length_map]))) (atI_litG h0))) fun v H' s r => q v H' s r
theorem ok_flen (T : Ty K mg) : MethOk P w K mg base 1 "Film" "__len__" (fun vs H Q _ => ∃ (B : Boards) (f : Films) (v : V), vs = [v] ∧ (FiP K B f).p H v ∧ ∀ H', Same H H' → Q (.int f.length) H') := by
  refine T.tx.m_Film___len__ (fun vs H Q E ⟨B, l, v, ev, _⟩ => by subst ev; rfl) fun X vs H Q E ⟨f, cdv, A, outer, s, e⟩ G ⟨B, fm, v, ev, hv, q⟩ => ?_
  subst e ev
  have E := env_p (N := N_Film___len__) (Ps' := [FiP K B fm]) (vs := [v]) (H := H) (.cons hv .nil)
  have dlen : (fm.map (oP K B)).length = fm.length := List.length_map ..
  refine s_ret E (P := fun H v => Rep H (.int fm.length) v) (ER.is (er_lenT T.tx.n_len (er_fpics (B := B) (f := fm) T (ed_var 0 rfl))) (by rw [List.length_map])) fun v H' s r => by cases r; exact q H' s
end
section
variable {X : Cx} {Hz : Hp} {ρ : Rho} {o e a b : Expr} {es : List Expr} {pos p apos : Pos} {k : Nat} {B : Boards} {l : List Dot} {f : Films} {t : Int}
theorem ed_pat (T : Ty X.K X.mg) (G : GX X 1) (h0 : 0 < f.length) (ho : ED X Hz ρ o (FiP X.K B f).p) (ha : ER X Hz ρ e (.int t))
    (hst : starEach [e] X.env = (false, eval e X.env) :: starEach [] X.env := by rfl) (hpl : (backTo pos (starEach [] X.env)).any (·.1) = false := by rfl) {pl : Sem Bool}
    (ht : eval (.Call (.Attribute o "picture_at" apos) [e] [] pos) X.env = (do
      let ov ← eval o X.env
      standAt apos.atName
      let z ← holding [ov] (getMethod ov "picture_at" pl)
      callWith pos z.1 z.2 (backTo pos (starEach [e] X.env)) (backToKw pos (keywordEach [] X.env))) := by rfl) : ED X Hz ρ (.Call (.Attribute o "picture_at" apos) [e] [] pos) (PiP X.K B (litAt f t)).p :=
  ed_meth (A := fun H vs => RepL H [.int t] vs) T.cF (T.methF 115 rfl) (ok_pat (P := X.prog) (w := X.w) (base := X.base) T) G (stb_PP (FiP X.K B f)) (fun H v ⟨a, e, dx, v1, v2, h, _⟩ => ⟨a, dx, _, e, h, rfl⟩) ho (ad_one ha hst)
    (fun v vs H s po pa Q q => by
      obtain ⟨u, rfl, ru⟩ := pa.one
      exact ⟨B, f, t, v, u, rfl, po, ru, h0, q⟩) hst hpl ht
theorem er_flen (T : Ty X.K X.mg) (G : GX X 2) (hm : X.mg "len" = none) (hz : f.length ≤ 1000) (h : ED X Hz ρ e (FiP X.K B f).p) (hg : Gl X "len" := by rfl) (hs : starEach [e] X.env = (false, eval e X.env) :: starEach [] X.env := by rfl) (hpl : (backTo pos (starEach [] X.env)).any (·.1) = false := by rfl) : ER X Hz ρ (.Call (.Name "len" p) [e] [] pos) (.int f.length) :=
  ed_cb (call_lenO (T.methX (x := "Film") (m := "__len__") (by simp [exFa])).at_ (T.methX (x := "Film") (m := "__len__") (by simp [exFa])).fn (ok_flen (P := X.prog) (w := X.w) (base := X.base) T) G.room) hm (by decide +kernel) (ap_cons (stb_PP (FiP X.K B f)) h ap_nil hs) (fun vs H r Q q => by
    obtain ⟨v, _, rfl, hv, rfl⟩ := r
    obtain ⟨a, dx, fs, rfl, ha⟩ := FiP.ins H v hv
    exact ⟨a, dx, fs, rfl, ha, B, f, _, rfl, hv, fun H' s' => ⟨_, rfl, ⟨by omega, by omega⟩, q _ H' s' (.int _)⟩⟩) hg (by decide) (by decide) hs hpl
end
section
variable {P : Program} {w : World}
variable {K : PySem.W.Frag} {mg : Str → Option Value} {base : Heap}
theorem ok_lat (T : Ty K mg) : MethOk P w K mg base 2 "Film" "lit_at" (fun vs H Q _ => ∃ (B : Boards) (f : Films) (t : Int) (v u : V), vs = [v, u] ∧ (FiP K B f).p H v ∧ Rep H (.int t) u ∧ 0 < f.length ∧ ∀ z H', Same H H' → (LitP (litAt f t)).p H' z → Q z H') := by
  refine T.tx.m_Film_lit_at (fun vs H Q E ⟨B, l, t, v, u, ev, _⟩ => by subst ev; rfl) fun X vs H Q E ⟨f, cdv, A, outer, s, e⟩ G ⟨B, fm, t, v, u, ev, hv, hu, h0, q⟩ => ?_
  subst e ev
  have E := env_p (N := N_Film_lit_at) (Ps' := [FiP K B fm, R (.int t)]) (vs := [v, u]) (H := H) (.cons hv (.cons hu .nil))
  exact s_ret E (ed_plit (B := B) (l := litAt fm t) T (ed_pat (B := B) (f := fm) (t := t) T G h0 (ed_var 0 rfl) (er_var 1 rfl))) fun v H' s r => q v H' s r
theorem ok_shr (T : Ty K mg) : MethOk P w K mg base 5 "Film" "__rshift__" (fun vs H Q _ => ∃ (B : Boards) (f : Films) (b : Nat) (v u : V), vs = [v, u] ∧ (FiP K B f).p H v ∧ Rep H (.int b) u ∧ b < f.length ∧ f.length ≤ 12 ∧ ∀ z H', Same H H' → (FiP K B (turnBy f b)).p H' z → Q z H') := by
  refine T.tx.m_Film___rshift__ (fun vs H Q E ⟨B, l, t, v, u, ev, _⟩ => by subst ev; rfl) fun X vs H Q E ⟨f, cdv, A, outer, s, e⟩ G ⟨B, fm, b, v, u, ev, hv, hu, h0, h1, q⟩ => ?_
  subst e ev
  have E := env_p (N := N_Film___rshift__) (Ps' := [FiP K B fm, R (.int b)]) (vs := [v, u]) (H := H) (.cons hv (.cons hu .nil))
  have dlen : (fm.map (oP K B)).length = fm.length := List.length_map ..
  refine s_skip E (.is (td_not (td_val (er_call (ok_int2 T.tx) (G.mono (by decide)) ((b : Int), 0) trivial (ad_cons (er_var 1 rfl) (ad_one er_int))))) (by
    have : intB (b : Int) 0 none = true := by unfold intB; rw [decide_eq_true (by omega)]; rfl
    show (!(intB (b : Int) 0 none)) = false
    rw [this]; rfl)) fun H1 s1 E1 => ?_
  refine s_set 2 (d := .int b) G E1 (.is (er_mod (j := fm.length) (by omega) (er_var 1 rfl) (.is (er_lenT T.tx.n_len (er_fpics (B := B) (f := fm) T (ed_var 0 rfl))) (by rw [List.length_map]))) (by rw [Int.emod_eq_of_lt (by omega) (by omega)])) fun σ2 H2 s2 E2 => ?_
  have hl : (turnBy fm b).length = fm.length := by unfold turnBy; rw [List.length_append, List.length_drop, List.length_take]; omega
  refine s_ret E2 (P := (FiP K B (turnBy fm b)).p) (ed_make (pre := fun H vs => ∃ u, vs = [u] ∧ Rep H (oPs K B (turnBy fm b)) u ∧ 0 < (turnBy fm b).length ∧ (turnBy fm b).length ≤ 12) (A := fun H vs => RepL H [oPs K B (turnBy fm b)] vs) (k := 3) (T.mkr (x := "Film") 112 rfl) (FnR.imp (ok_finit T) fun vs H Q E h => ⟨B, turnBy fm b, h⟩) (G.mono (by decide)) T.tx.g_Film (ad_one (ER.is (er_tup (ad_star (er_slt (er_fpics (B := B) (f := fm) T (ed_var 0 rfl)) (od_some (er_var (d := .int b) 2 rfl)) od_none) (ad_star (er_slt (er_fpics (B := B) (f := fm) T (ed_var 0 rfl)) od_none (od_some (er_var (d := .int b) 2 rfl))) ad_nil)) ?_) ?_)) fun H vs s h => ?_) fun v H' s r => q v H' (s1.trans (s2.trans s)) r
  · rw [cutD_map, cutD_map, cutG_from, cutG_to, List.append_nil, ← List.map_append, List.length_map]
    show (turnBy fm b).length ≤ 1000
    omega
  · rw [cutD_map, cutD_map, cutG_from, cutG_to, List.append_nil, ← List.map_append]
    rfl
  · obtain ⟨u, rfl, ru⟩ := h.one
    exact ⟨u, rfl, ru, by omega, by omega⟩
end
end K31
namespace K31
open L2 PySem PySem.Spec PyProof.Rows
abbrev oLook (K : PySem.W.Frag) (B : Boards) (x : Int × List Dot) : D := .tup [.int x.1, oP K B x.2]
abbrev oSeen (K : PySem.W.Frag) (B : Boards) (s : Seen) : D := .tup (s.map (oLook K B))
abbrev oFilms (K : PySem.W.Frag) (B : Boards) (fs : List Films) : D := .tup (fs.map (oF K B))
section
variable {X : Cx} {Hz : Hp} {ρ : Rho} {o e a b : Expr} {es : List Expr} {pos p apos : Pos} {k : Nat}
theorem er_sum {ns : List Int} (hc : X.calm = true) (hm : X.mg "sum" = none) (h : ED X Hz ρ e (Lst (ns.map D.int))) (hg : Gl X "sum" := by rfl) (hs : starEach [e] X.env = (false, eval e X.env) :: starEach [] X.env := by rfl) (hpl : (backTo pos (starEach [] X.env)).any (·.1) = false := by rfl) : ER X Hz ρ (.Call (.Name "sum" p) [e] [] pos) (.int ns.sum) :=
  ed_cb (cr_sum hc) hm (by decide +kernel) (al_one h hs) (fun vs H r Q q => by
    obtain ⟨v, _, rfl, ⟨l, us, rfl, hl, rl⟩, rfl⟩ := r
    have := rl.ints
    subst this
    exact ⟨l, ns, rfl, SqL.of hl, q _ H (Same.refl H) (.int _)⟩) hg (by decide) (by decide) hs hpl
end
section
variable {P : Program} {w : World}
variable {K : PySem.W.Frag} {mg : Str → Option Value} {base : Heap}
theorem int_nn {i : Int} (h : 0 ≤ i) : intB i 0 none = true := by unfold intB; rw [decide_eq_true h]; rfl
theorem ok_is_look (T : Ty K mg) : DefOk P w K mg base 2 "is_look" (fun vs H Q _ => ∃ (B : Boards) (x : Int × List Dot) (v u : V), vs = [v, u] ∧ (BoP K B).p H v ∧ Rep H (oLook K B x) u ∧ 0 ≤ x.1 ∧ ∀ H', Same H H' → Q (.bl true) H') := by
  refine T.tx.d_is_look (fun vs H Q E ⟨B, x, v, u, ev, _⟩ => by subst ev; rfl) fun X vs H Q E ⟨f, cdv, A, outer, s, e⟩ G ⟨B, x, v, u, ev, hv, hu, h0, q⟩ => ?_
  subst e ev
  have E := env_p (N := N_is_look) (Ps' := [BoP K B, R (oLook K B x)]) (vs := [v, u]) (H := H) (.cons hv (.cons hu .nil))
  refine s_skip E (.is (td_or (td_not (td_val (er_call (ok_is_pair T.tx) (G.mono (by decide)) [.int x.1, oP K B x.2] trivial (ad_one (er_var 1 rfl))))) fun _ => td_not (td_val (er_call (ok_int2 T.tx) (G.mono (by decide)) (x.1, 0) trivial (ad_cons (er_ixt (er_var 1 rfl) er_int rfl) (ad_one er_int))))) ?_) fun H1 s1 E1 => ?_
  · show ((!decide (((2 : Nat) : Int) = 2)) || !(intB x.1 0 none)) = false
    rw [int_nn h0]; rfl
  · refine s_ret E1 (P := fun H v => Rep H (.bl true) v) (ER.is (er_and (k := true) (l := true) (er_isiO T.tx.n_isinstance T.cP (isi_of (T.xisi (C := "Picture") (by decide))) (stb_PP (PiP K B x.2)) PiP.ins (ed_obj (er_ixt (er_var (d := oLook K B x) 1 rfl) er_int rfl)) (ed_cls T.tx.g_Picture)) fun _ => er_eqB (B := B) T (G.mono (by decide)) (ed_pboard (B := B) (l := x.2) T (ed_obj (er_ixt (er_var (d := oLook K B x) 1 rfl) er_int rfl))) (ed_var 0 rfl)) rfl) fun v H' s r => by cases r; exact q H' (s1.trans s)
theorem ok_check_seen (T : Ty K mg) : DefOk P w K mg base 3 "check_seen" (fun vs H Q _ => ∃ (B : Boards) (se : Seen) (v u : V), vs = [v, u] ∧ (BoP K B).p H v ∧ Rep H (oSeen K B se) u ∧ SeenOk B se ∧ ∀ H', Same H H' → Q .non H') := by
  refine T.tx.d_check_seen (fun vs H Q E ⟨B, x, v, u, ev, _⟩ => by subst ev; rfl) fun X vs H Q E ⟨f, cdv, A, outer, s, e⟩ G ⟨B, se, v, u, ev, hv, hu, hs, q⟩ => ?_
  subst e ev
  have E := env_p (N := N_check_seen) (Ps' := [BoP K B, R (oSeen K B se)]) (vs := [v, u]) (H := H) (.cons hv (.cons hu .nil))
  have dlen : (se.map (oLook K B)).length = se.length := List.length_map ..
  have h0 := hs.h0
  have h1 := hs.h1
  refine s_skip E (.is (td_or (td_not (td_val (er_call (ok_is_tuple T.tx) (G.mono (by decide)) (se.map (oLook K B), 12) trivial (ad_cons (er_var 1 rfl) (ad_one (er_gint (by rfl) T.tx.c_MOST_LOOKS)))))) fun _ => td_not (td_val (er_all G.calm T.tx.n_all (bs := se.map fun _ => true) (.imp (ed_lc (L := se) (enc := oLook K B) (fun _ => true) (fun _ => .bl true) G [("look", 2)] (src_tup (er_var 1 rfl)) (blkOk_by (N := N_check_seen) (sc := defScope s_check_seen) (by decide +kernel)) (by omega) (fun s H0 C cl fp x hx => tg_name 2 G.nd)
    (fun s H0 C cl fp x hx => ts_nil) fun s H0 C cl fp x hx _ => ed_call (P := fun H v => Rep H (.bl true) v) (A := Ps [(BoP K B).p, fun H v => Rep H (oLook K B x) v]) (ok_is_look T) (GX.mono G.bk (by decide)) (ap_cons (stb_PP _) (ed_var 0 rfl) (ap_cons stb_R (er_var 2 rfl) ap_nil)) fun vs H1 h Q q => ?_) fun H v h => ?_)))) ?_) fun H1 s1 E1 => ?_
  · obtain ⟨a, _, rfl, pa, b, _, rfl, pb, rfl⟩ := h
    exact ⟨B, x, a, b, rfl, pa, pb, (hs.pos x hx).1, fun H' s' => q _ H' s' (.bl _)⟩
  · rw [filter_tt] at h
    rw [List.map_map]; exact h
  · dsimp only
    rw [dlen]
    have a1 : (1 : Int) ≤ (se.length : Nat) := by omega
    have a2 : ((se.length : Nat) : Int) ≤ 12 := by omega
    rw [decide_eq_true a1, decide_eq_true a2]; simp
  · refine s_skip E1 (.is (td_not (td_val (ed_call (P := fun H v => Rep H (.bl true) v) (A := Ps [Lst ((se.map Prod.fst).map D.int)]) (ok_risingI T.tx) (G.mono (by decide)) (al_one (.imp (ed_lc (L := se) (enc := oLook K B) (fun _ => true) (fun x => .int x.1) G [("tick", 3), ("picture", 4)] (src_tup (er_var 1 rfl)) (blkOk_by (N := N_check_seen) (sc := defScope s_check_seen) (by decide +kernel)) (by omega) (fun s H0 C cl fp x hx => tg_tup2 3 4 G.nd G.calm)
      (fun s H0 C cl fp x hx => ts_nil) fun s H0 C cl fp x hx _ => er_var 3 rfl) fun H v h => ?_)) fun vs H1 h Q q => ?_))) rfl) fun H2 s2 E2 => s_nil (q H2 (s1.trans s2))
    · rw [filter_tt] at h
      rw [List.map_map]; exact h
    · obtain ⟨a, _, rfl, ⟨t, us, rfl, ht, hr⟩, rfl⟩ := h
      exact ⟨t, se.map Prod.fst, rfl, ⟨us, ht, hr⟩, hs.up, by rw [List.length_map]; omega, fun H' s' => q _ H' s' (.bl _)⟩
theorem sum_le {fs : List Films} (h : ∀ f ∈ fs, f.length ≤ 4) : (fs.map fun f => (f.length : Int)).sum ≤ 4 * fs.length := by
  induction fs with
  | nil => simp
  | cons f fs ih =>
    have h1 := h f List.mem_cons_self
    have h2 := ih fun g hg => h g (List.mem_cons_of_mem _ hg)
    rw [List.map_cons, List.sum_cons, List.length_cons]
    omega
theorem ok_check_films (T : Ty K mg) : DefOk P w K mg base 3 "check_films" (fun vs H Q _ => ∃ (B : Boards) (fs : List Films) (u : V), vs = [u] ∧ Rep H (oFilms K B fs) u ∧ FilmsOk B fs ∧ ∀ H', Same H H' → Q .non H') := by
  refine T.tx.d_check_films (fun vs H Q E ⟨B, x, u, ev, _⟩ => by subst ev; rfl) fun X vs H Q E ⟨f, cdv, A, outer, s, e⟩ G ⟨B, fs, u, ev, hu, hf, q⟩ => ?_
  subst e ev
  have E := env_p (N := N_check_films) (Ps' := [R (oFilms K B fs)]) (vs := [u]) (H := H) (.cons hu .nil)
  have dlen : (fs.map (oF K B)).length = fs.length := List.length_map ..
  have h0 := hf.h0
  have h1 := hf.h1
  refine s_skip E (.is (td_or (td_not (td_val (er_call (ok_is_tuple T.tx) (G.mono (by decide)) (fs.map (oF K B), 6) trivial (ad_cons (er_var 0 rfl) (ad_one (er_gint (by rfl) T.tx.c_MOST_FILMS)))))) fun _ => td_not (td_val (er_all G.calm T.tx.n_all (bs := fs.map fun _ => true) (.imp (ed_lc (L := fs) (enc := oF K B) (fun _ => true) (fun _ => .bl true) G [("film", 1)] (src_tup (er_var 0 rfl)) (blkOk_by (N := N_check_films) (sc := defScope s_check_films) (by decide +kernel)) (by omega) (fun s H0 C cl fp x hx => tg_name 1 G.nd)
    (fun s H0 C cl fp x hx => ts_nil) fun s H0 C cl fp x hx _ => er_isiO T.tx.n_isinstance T.cF (isi_of (T.xisi (C := "Film") (by decide))) (stb_PP (FiP K B x)) FiP.ins (ed_obj (er_var 1 rfl)) (ed_cls T.tx.g_Film)) fun H v h => ?_)))) ?_) fun H1 s1 E1 => ?_
  · rw [filter_tt] at h
    rw [List.map_map]; exact h
  · dsimp only
    rw [dlen]
    have a1 : (1 : Int) ≤ (fs.length : Nat) := by omega
    have a2 : ((fs.length : Nat) : Int) ≤ 6 := by omega
    rw [decide_eq_true a1, decide_eq_true a2]; simp
  refine s_skip E1 (.is (td_gt (er_sum (ns := fs.map fun f => (f.length : Int)) G.calm T.tx.n_sum (.imp (ed_lc (L := fs) (enc := oF K B) (fun _ => true) (fun f => .int f.length) G [("film", 1)] (src_tup (er_var 0 rfl)) (blkOk_by (N := N_check_films) (sc := defScope s_check_films) (by decide +kernel)) (by omega) (fun s H0 C cl fp x hx => tg_name 1 G.nd)
    (fun s H0 C cl fp x hx => ts_nil) fun s H0 C cl fp x hx _ => er_flen (B := B) T (GX.mono G.bk (by decide)) T.tx.n_len (by have := (hf.ok x hx).h1; omega) (ed_obj (er_var 1 rfl))) fun H v h => ?_)) (er_gint (by rfl) T.tx.c_MOST_TOGETHER)) ?_) fun H2 s2 E2 => ?_
  · rw [filter_tt] at h
    rw [List.map_map]; exact h
  · have := sum_le fun f hx => (hf.ok f hx).h1
    rw [decide_eq_false]
    omega
  obtain ⟨l0, f', rfl⟩ : ∃ l0 f', fs = l0 :: f' := by
    cases fs with
    | nil => exact absurd h0 (by decide)
    | cons a b => exact ⟨_, _, rfl⟩
  refine s_skip E2 (.is (td_not (td_val (er_all G.calm T.tx.n_all (bs := (l0 :: f').map fun _ => true) (.imp (ed_lc (L := l0 :: f') (enc := oF K B) (fun _ => true) (fun _ => .bl true) G [("film", 1)] (src_tup (er_var 0 rfl)) (blkOk_by (N := N_check_films) (sc := defScope s_check_films) (by decide +kernel)) (by omega) (fun s H0 C cl fp x hx => tg_name 1 G.nd)
    (fun s H0 C cl fp x hx => ts_nil) fun s H0 C cl fp x hx _ => er_eqB (B := B) T (GX.mono G.bk (by decide)) (ed_fboard (B := B) (f := x) T (ed_obj (er_var 1 rfl))) (ed_fboard (B := B) (f := l0) T (ed_obj (er_ixt (er_var 0 rfl) er_int (atI_nat (j := 0) rfl))))) fun H v h => ?_)))) (by simp)) fun H3 s3 E3 => s_nil (q H3 (s1.trans (s2.trans s3)))
  rw [filter_tt] at h
  rw [List.map_map]; exact h
theorem ok_check_k (T : Ty K mg) : DefOk P w K mg base 2 "check_k" (fun vs H Q _ => ∃ (i m : Int), RepL H [.int i, .int m] vs ∧ 0 ≤ i ∧ i ≤ m ∧ ∀ H', Same H H' → Q .non H') := by
  refine T.tx.d_check_k (fun vs H Q E ⟨i, m, r, _⟩ => by have := r.length; simpa using this.symm) fun X vs H Q E ⟨f, cdv, A, outer, s, e⟩ G ⟨i, m, r, h0, h1, q⟩ => ?_
  subst e
  have E := env_r (N := N_check_k) r
  refine s_skip E (.is (td_not (td_val (er_call (ok_int3 T.tx) (G.mono (by decide)) (i, 0, m) trivial (ad_cons (er_var 0 rfl) (ad_cons er_int (ad_one (er_var 1 rfl))))))) (by
    show (!(decide (0 ≤ i) && decide (i ≤ m))) = false
    rw [decide_eq_true h0, decide_eq_true h1]; rfl)) fun H1 s1 E1 => s_nil (q H1 s1)
end
end K31
namespace K31
open L2 PySem PySem.Spec PyProof.Rows
section
variable {X : Cx} {Hz : Hp} {ρ : Rho} {o e a b : Expr} {es : List Expr} {pos p apos : Pos} {k : Nat} {B : Boards} {l : List Dot} {f : Films} {t : Int} {d : Dot} {P P' : Hp → V → Prop}
theorem td_cmp2 {op : CmpOp} {r : R2} {k : Bool} (ho : OpR X (compareOp op) r) (hm : behindInMarks op b = false) (sP : Stb P) (ha : ED X Hz ρ a P) (hb : ED X Hz ρ b P')
    (h : ∀ x y H, Same Hz H → P H x → P' H y → ∀ Q : VK, (∀ H', Same H H' → Q (.bl k) H') → r x y H Q) : TD X Hz ρ (.Compare a [op] [b] pos) k := by
  refine .by (pt_cmpR ho pe_W pe_W hm) fun σ H Q E q => ?_
  refine ha.run σ H _ E fun x H1 s1 p1 => ?_
  refine hb.run σ H1 _ (E.same s1) fun y H2 s2 p2 => ?_
  exact h x y H2 (E.s0.trans (s1.trans s2)) (sP.st s2 p1) p2 _ fun H3 s3 => ⟨k, rfl, q H3 ((s1.trans s2).trans s3)⟩
theorem td_ninL (G : GX X k) (hb : ED X Hz ρ b (LitP l).p) (ha : ER X Hz ρ a (dDot d)) (hh : behindInMarks .NotIn b = false := by rfl) : TD X Hz ρ (.Compare a [.NotIn] [b] pos) (!decide (d ∈ l)) := by
  refine .by (pt_cmp (pc_dnotin G.hu pe_W pe_W) hh) fun σ H Q E q => ?_
  refine ha.run σ H _ E fun y H1 s1 ry => ?_
  refine hb.run σ H1 _ (E.same s1) fun v H2 s2 ⟨ll, ev, hD⟩ => ?_
  subst ev
  obtain ⟨o, g, g1, _⟩ := hD.r.get keyE_dot (ry.le (.of s2))
  refine ⟨ll, o, rfl, g, ⟨_, rfl, ?_⟩⟩
  rw [g1, getM_allT]
  have : (!decide (d ∈ l)) = (!(@decide (d ∈ l) (inferInstance))) := rfl
  exact cast (by congr 1; congr 1; exact decide_eq_decide.mpr Iff.rfl) (q H2 (s1.trans s2))
theorem ed_lat (T : Ty X.K X.mg) (G : GX X 2) (h0 : 0 < f.length) (ho : ED X Hz ρ o (FiP X.K B f).p) (ha : ER X Hz ρ e (.int t))
    (hst : starEach [e] X.env = (false, eval e X.env) :: starEach [] X.env := by rfl) (hpl : (backTo pos (starEach [] X.env)).any (·.1) = false := by rfl) {pl : Sem Bool}
    (ht : eval (.Call (.Attribute o "lit_at" apos) [e] [] pos) X.env = (do
      let ov ← eval o X.env
      standAt apos.atName
      let z ← holding [ov] (getMethod ov "lit_at" pl)
      callWith pos z.1 z.2 (backTo pos (starEach [e] X.env)) (backToKw pos (keywordEach [] X.env))) := by rfl) : ED X Hz ρ (.Call (.Attribute o "lit_at" apos) [e] [] pos) (LitP (litAt f t)).p :=
  ed_meth (A := fun H vs => RepL H [.int t] vs) T.cF (T.methF 116 rfl) (ok_lat (P := X.prog) (w := X.w) (base := X.base) T) G (stb_PP (FiP X.K B f)) (fun H v ⟨a, e, dx, v1, v2, h, _⟩ => ⟨a, dx, _, e, h, rfl⟩) ho (ad_one ha hst)
    (fun v vs H s po pa Q q => by
      obtain ⟨u, rfl, ru⟩ := pa.one
      exact ⟨B, f, t, v, u, rfl, po, ru, h0, q⟩) hst hpl ht
theorem td_ninP (T : Ty X.K X.mg) (G : GX X 3) (hd : d ∈ dotsOf B) (ha : ER X Hz ρ a (dDot d)) (hb : ED X Hz ρ b (PiP X.K B l).p) (hm : behindInMarks .NotIn b = false := by rfl) : TD X Hz ρ (.Compare a [.NotIn] [b] pos) (!decide (d ∈ l)) := by
  have M := T.methX (x := "Picture") (m := "__contains__") (by simp [exFa])
  refine td_cmp2 (op_notInO M.at_ M.fn (ok_pin (P := X.prog) (w := X.w) (base := X.base) T) G.room) hm stb_R ha hb fun x y H s px py Q q => ?_
  obtain ⟨aa, dx, fs, rfl, ha⟩ := PiP.ins H y py
  exact ⟨aa, dx, fs, rfl, ha, B, l, d, _, _, rfl, py, px, hd, fun H' s' => ⟨_, rfl, q H' s'⟩⟩
end
def strayL (f : Films) (s : Seen) : List (Int × Dot) := s.flatMap fun x => (x.2.filter fun d => !decide (d ∈ litAt f x.1)).map fun d => (x.1, d)
theorem strayL_nil (f : Films) (s : Seen) : strayL f s = [] ↔ strayB f s = false := by
  unfold strayL strayB
  rw [List.flatMap_eq_nil_iff, List.any_eq_false]
  refine forall_congr' fun x => forall_congr' fun hx => ?_
  rw [List.map_eq_nil_iff, List.filter_eq_nil_iff]
  rw [Bool.not_eq_true, List.any_eq_false]
theorem truths_fst (fs : List Films) (i : Nat) : ((fs.zipIdx i).flatMap fun x => (List.range x.1.length).map fun b : Nat => dDot ((x.2 : Int), (b : Int))) = (truthsFrom i fs).map fun x => dDot x.1 := by
  induction fs generalizing i with
  | nil => rfl
  | cons f fs ih =>
    rw [List.zipIdx_cons, List.flatMap_cons, ih (i + 1)]
    show _ = (_ ++ truthsFrom (i + 1) fs).map _
    rw [List.map_append, List.map_map]
    rfl
section
variable {P : Program} {w : World}
variable {K : PySem.W.Frag} {mg : Str → Option Value} {base : Heap}
theorem ok_truths_of (T : Ty K mg) : DefOk P w K mg base 3 "truths_of" (fun vs H Q _ => ∃ (B : Boards) (fs : List Films) (u : V), vs = [u] ∧ Rep H (oFilms K B fs) u ∧ FilmsOk B fs ∧ ∀ v H', Same H H' → Lst ((truthsOf fs).map fun x => dDot x.1) H' v → Q v H') := by
  refine T.tx.d_truths_of (fun vs H Q E ⟨B, x, u, ev, _⟩ => by subst ev; rfl) fun X vs H Q E ⟨f, cdv, A, outer, s, e⟩ G ⟨B, fs, u, ev, hu, hf, q⟩ => ?_
  subst e ev
  have E := env_p (N := N_truths_of) (Ps' := [R (oFilms K B fs)]) (vs := [u]) (H := H) (.cons hu .nil)
  have h1 := hf.h1
  have hmem : ∀ x ∈ fs.zipIdx, x.1.length ≤ 4 := fun x hx => by
    have h1 := List.mem_zipIdx hx
    exact (hf.ok x.1 (by rw [h1.2.2]; exact List.getElem_mem _)).h1
  refine s_ret E (P := Lst ((truthsOf fs).map fun x => dDot x.1)) (.imp (ed_lc2 (L := fs.zipIdx) (enc := fun x => .tup [.int (x.2 : Nat), oF K B x.1]) (M := fun x => List.range x.1.length) (enc1 := fun _ b => .int (b : Nat)) (fun _ _ => true) (fun x b => dDot ((x.2 : Nat), (b : Nat))) G [("number", 1), ("film", 2), ("begin", 3)] [3] (by decide)
      (.is (srcT_enumT T.tx.n_enumerate (er_var (d := oFilms K B fs) 0 rfl)).src (by unfold enumD; rw [List.zipIdx_map, List.map_map]; rfl)) (blkOk_by (N := N_truths_of) (sc := defScope s_truths_of) (by decide +kernel)) (by rw [List.length_zipIdx]; omega) (fun x hx => by
        rw [List.length_range]
        have := hmem x hx
        omega)
      (fun s H0 C cl fp x hx => tg_tup2V 1 2 (by decide) (by decide) G.nd G.calm)
      (fun s H0 C cl fp x hx => .is (srcT_range (n := x.1.length) T.tx.n_range (by have := hmem x hx; omega) (er_flen (B := B) (f := x.1) T (GX.mono G.bk (by decide)) T.tx.n_len (by have := hmem x hx; omega) (ed_obj (er_var 2 rfl)))) (by rw [Int.toNat_natCast]))
      (fun s H0 C cl fp x hx y hy => tg_nameV 3 (by decide) G.nd)
      (fun s H0 C cl fp x hx y hy => ts_nil)
      fun s H0 C cl fp x hx y hy _ => er_t2 (er_var 1 rfl) (er_var 3 rfl)) fun H v h => ?_) fun v H' s r => q v H' s r
  unfold truthsOf
  rw [← truths_fst]
  have e : ∀ x : Films × Nat, ((List.range x.1.length).filter fun _ => true) = List.range x.1.length := fun x => filter_tt _
  simp only [e] at h
  exact h
theorem ok_wires_at (T : Ty K mg) : DefOk P w K mg base 1 "wires_at" (spF (fun d : Dot => [dDot d]) (fun _ => True) fun d => .tup [dWire (sRow, d.1), dWire (sCol, d.2)]) := by
  refine T.tx.d_wires_at (spF_len fun _ => rfl) fun X vs H Q E ⟨f, cdv, A, outer, s, e⟩ G ⟨d, r, _, q⟩ => ?_
  subst e
  have E := env_r (N := N_wires_at) r
  exact s_ret E (er_t2 (er_t2 (er_gstr (by rfl) T.tx.c_ROW) (er_ixt (er_var (d := dDot d) 0 rfl) er_int rfl)) (er_t2 (er_gstr (by rfl) T.tx.c_COLUMN) (er_ixt (er_var (d := dDot d) 0 rfl) er_int rfl))) fun v H' s r => q v H' s r
theorem ok_strays (T : Ty K mg) : DefOk P w K mg base 3 "strays" (fun vs H Q _ => ∃ (B : Boards) (f : Films) (se : Seen) (v u : V), vs = [v, u] ∧ (FiP K B f).p H v ∧ Rep H (oSeen K B se) u ∧ GoodB B ∧ 0 < f.length ∧ SeenOk B se ∧ ∀ z H', Same H H' → Lst ((strayL f se).map dMiss) H' z → Q z H') := by
  refine T.tx.d_strays (fun vs H Q E ⟨B, f, se, v, u, ev, _⟩ => by subst ev; rfl) fun X vs H Q E ⟨f, cdv, A, outer, s, e⟩ G ⟨B, fm, se, v, u, ev, hv, hu, hB, h0, hs, q⟩ => ?_
  subst e ev
  have E := env_p (N := N_strays) (Ps' := [FiP K B fm, R (oSeen K B se)]) (vs := [v, u]) (H := H) (.cons hv (.cons hu .nil))
  have h1 := hs.h1
  refine s_ret E (P := Lst ((strayL fm se).map dMiss)) (.imp (ed_lc2 (L := se) (enc := oLook K B) (M := fun x => x.2) (enc1 := fun _ d => dDot d) (fun x d => !decide (d ∈ litAt fm x.1)) (fun x d => dMiss (x.1, d)) G [("tick", 2), ("picture", 3), ("dot", 4)] [4] (by decide)
      (src_tup (er_var 1 rfl)) (blkOk_by (N := N_strays) (sc := defScope s_strays) (by decide +kernel)) (by omega) (fun x hx => by have := (hs.lit x hx).len hB; omega)
      (fun s H0 C cl fp x hx => tg_tup2V 2 3 (by decide) (by decide) G.nd G.calm)
      (fun s H0 C cl fp x hx => srcT_tup (er_pdots (B := B) (l := x.2) T (GX.mono G.bk (by decide)) (ed_obj (er_var 3 rfl))))
      (fun s H0 C cl fp x hx y hy => tg_nameV 4 (by decide) G.nd)
      (fun s H0 C cl fp x hx y hy => ts_one (td_ninL G.bk (ed_lat (B := B) (f := fm) (t := x.1) T (GX.mono G.bk (by decide)) h0 (ed_var 0 rfl) (er_var 2 rfl)) (er_var 4 rfl)))
      fun s H0 C cl fp x hx y hy _ => er_t2 (er_var 2 rfl) (er_var 4 rfl)) fun H v h => ?_) fun v H' s r => q v H' s r
  unfold strayL
  rw [List.map_flatMap]
  simp only [List.map_map]
  exact h
theorem ok_missingP (T : Ty K mg) : DefOk P w K mg base 4 "missing" (fun vs H Q _ => ∃ (B : Boards) (f : Films) (se : Seen) (v u : V), vs = [v, u] ∧ (FiP K B f).p H v ∧ Rep H (oSeen K B se) u ∧ GoodB B ∧ 0 < f.length ∧ (∀ l ∈ f, Lit B l) ∧ SeenOk B se ∧ ∀ z H', Same H H' → Lst ((missOf f se).map dMiss) H' z → Q z H') := by
  refine T.tx.d_missing (fun vs H Q E ⟨B, f, se, v, u, ev, _⟩ => by subst ev; rfl) fun X vs H Q E ⟨f, cdv, A, outer, s, e⟩ G ⟨B, fm, se, v, u, ev, hv, hu, hB, h0, hfl, hs, q⟩ => ?_
  subst e ev
  have E := env_p (N := N_missing) (Ps' := [FiP K B fm, R (oSeen K B se)]) (vs := [v, u]) (H := H) (.cons hv (.cons hu .nil))
  have h1 := hs.h1
  refine s_ret E (P := Lst ((missOf fm se).map dMiss)) (.imp (ed_lc2 (L := se) (enc := oLook K B) (M := fun x => litAt fm x.1) (enc1 := fun _ d => dDot d) (fun x d => !decide (d ∈ x.2)) (fun x d => dMiss (x.1, d)) G [("tick", 2), ("picture", 3), ("dot", 4)] [4] (by decide)
      (src_tup (er_var 1 rfl)) (blkOk_by (N := N_missing) (sc := defScope s_missing) (by decide +kernel)) (by omega) (fun x hx => by have := (hfl _ (litAt_mem x.1 h0)).len hB; omega)
      (fun s H0 C cl fp x hx => tg_tup2V 2 3 (by decide) (by decide) G.nd G.calm)
      (fun s H0 C cl fp x hx => srcT_tup (er_pdots (B := B) (l := litAt fm x.1) T (GX.mono G.bk (by decide)) (ed_pat (B := B) (f := fm) (t := x.1) T (GX.mono G.bk (by decide)) h0 (ed_var 0 rfl) (er_var 2 rfl))))
      (fun s H0 C cl fp x hx y hy => tg_nameV 4 (by decide) G.nd)
      (fun s H0 C cl fp x hx y hy => ts_one (td_ninP (B := B) (l := x.2) T (GX.mono G.bk (by decide)) ((hfl _ (litAt_mem x.1 h0)).2 y hy) (er_var 4 rfl) (ed_obj (er_var 3 rfl))))
      fun s H0 C cl fp x hx y hy _ => er_t2 (er_var 2 rfl) (er_var 4 rfl)) fun H v h => ?_) fun v H' s r => q v H' s r
  unfold missOf
  rw [List.map_flatMap]
  simp only [List.map_map]
  exact h
end
end K31
namespace K31
open L2 PySem PySem.Spec PyProof.Rows
/-! ### is True -/
def rIsT : R2 := fun x y H Q => y = .bl true ∧ ((∃ b, x = .bl b ∧ Q (.bl b) H) ∨ ∃ i, x = .int i ∧ Q (.bl false) H)
theorem op_isT {X : Cx} : OpR X (compareOp .Is) rIsT := by
  intro pins s σ H x y v u Q I rx ry h; obtain ⟨rfl, h⟩ := h
  cases (show u = Value.bool true from ry)
  rcases h with ⟨b, rfl, q⟩ | ⟨i, rfl, q⟩
  · cases (show v = Value.bool b from rx)
    cases b with
    | true => exact wpAny_is_self rfl ⟨.bl true, H, I, rfl, q⟩
    | false => exact wpAny_is_other rfl (fun z => by cases z) ⟨.bl false, H, I, rfl, q⟩
  · obtain ⟨t, rfl⟩ := rx
    exact wpAny_is_other rfl (fun z => by cases z) ⟨.bl false, H, I, rfl, q⟩
theorem er_negI {X : Cx} {Hz : Hp} {ρ : Rho} {a : Expr} {pos : Pos} {i : Int} (ha : ER X Hz ρ a (.int i)) : ER X Hz ρ (.UnaryOp .USub a pos) (.int (-i)) := .by (pe_un un_neg pe_W) fun σ H Q E q => ha.run σ H _ E fun v H1 s1 p => by cases p; exact ⟨i, rfl, q _ H1 s1 (.int _)⟩
theorem atI_last {α : Type} (l : List α) (x : α) : atI (l ++ [x]) (-1) = some x := by
  unfold atI ixN
  rw [List.length_append, List.length_singleton]; have h1 : ¬ (0 : Int) ≤ -1 := by omega
  rw [if_neg h1, if_pos (by omega)]
  have : ((-1 : Int) + ((l.length + 1 : Nat) : Int)).toNat = l.length := by omega
  rw [Option.bind_some, this, List.getElem?_append_right (Nat.le_refl _), Nat.sub_self]; rfl
def dyB : D → Bool
  | .bl b => b
  | _ => false
def DyOk (d : D) : Prop := (∃ b, d = .bl b) ∨ ∃ i, d = .int i
theorem er_isT {X : Cx} {Hz : Hp} {ρ : Rho} {a : Expr} {d : D} {j : Nat} {p2 pos : Pos} (hd : DyOk d) (ha : ER X Hz ρ a d) : ER X Hz ρ (.Compare a [.Is] [.Constant (.bool true) j p2] pos) (.bl (dyB d)) :=
  er_cmpR op_isT (nomark _) ha er_bl fun x y H p1 p2 Q q => by
    cases p2
    refine ⟨rfl, ?_⟩
    rcases hd with ⟨b, rfl⟩ | ⟨i, rfl⟩
    · cases p1; exact .inl ⟨b, rfl, q⟩
    · cases p1; exact .inr ⟨i, rfl, q⟩
/-! ### what was lit last -/
abbrev LastM := List (Wire × (Int × Dot))
def wsAt (d : Dot) : List Wire := [(sRow, d.1), (sCol, d.2)]
def dotP (m : LastM) (x : Int × Dot) : LastM := (wsAt x.2).foldl (fun m w => putM m w x) m
def lookP (m : LastM) (x : Int × List Dot) : LastM := x.2.foldl (fun m d => dotP m (x.1, d)) m
def lastP (s : Seen) : LastM := s.foldl lookP []
def prM (m : LastM) : List (Wire × Int) := m.map fun e => (e.1, e.2.1)
theorem prM_put (m : LastM) (w : Wire) (x : Int × Dot) : prM (putM m w x) = putM (prM m) w x.1 := by
  unfold prM putM
  have e : ((m.map fun e => (e.1, e.2.1)).any fun e => decide (e.1 = w)) = m.any fun e => decide (e.1 = w) := by
    rw [List.any_map]; rfl
  rw [e]
  split
  · rw [List.map_map, List.map_map]
    refine List.map_congr_left fun e _ => ?_
    show _ = (if e.1 = w then (e.1, x.1) else (e.1, e.2.1))
    by_cases h : e.1 = w
    · simp [h]
    · simp [h]
  · rw [List.map_append]; rfl
theorem prM_dot (m : LastM) (x : Int × Dot) : prM (dotP m x) = lastPut (prM m) x.1 x.2 := by
  show prM (putM (putM m (sRow, x.2.1) x) (sCol, x.2.2) x) = _
  rw [prM_put, prM_put]; rfl
theorem prM_look (t : Int) : ∀ (l : List Dot) (m : LastM), prM (lookP m (t, l)) = lastIn (prM m) (t, l)
  | [], _ => rfl
  | d :: l, m => by
    show prM (lookP (dotP m (t, d)) (t, l)) = lastIn (lastPut (prM m) t d) (t, l)
    rw [prM_look t l, prM_dot]
theorem prM_last : ∀ (s : Seen) (m : LastM), prM (s.foldl lookP m) = s.foldl lastIn (prM m)
  | [], _ => rfl
  | x :: s, m => by
    rw [List.foldl_cons, List.foldl_cons, prM_last s, show x = (x.1, x.2) from rfl, prM_look]
theorem getM_pr (m : LastM) (w : Wire) : getM (prM m) w = (getM m w).map (·.1) := by
  induction m with
  | nil => rfl
  | cons e m ih =>
    unfold prM getM at ih ⊢
    rw [List.map_cons, List.find?_cons, List.find?_cons]
    by_cases h : e.1 = w
    · simp [h]
    · simp only [h, decide_false]
      exact ih
theorem dotP_len (m : LastM) (x : Int × Dot) : (dotP m x).length ≤ m.length + 2 := by
  show (putM (putM m (sRow, x.2.1) x) (sCol, x.2.2) x).length ≤ _
  have h1 := putM_le (putM m (sRow, x.2.1) x) (sCol, x.2.2) x
  have h2 := putM_le m (sRow, x.2.1) x
  omega
theorem lookP_len (t : Int) : ∀ (l : List Dot) (m : LastM), (lookP m (t, l)).length ≤ m.length + 2 * l.length
  | [], _ => Nat.le_refl _
  | d :: l, m => by
    have h1 := lookP_len t l (dotP m (t, d))
    have h2 := dotP_len m (t, d)
    have : lookP m (t, d :: l) = lookP (dotP m (t, d)) (t, l) := rfl
    rw [this, List.length_cons]
    omega
theorem lastP_len : ∀ (s : Seen) (m : LastM), (∀ x ∈ s, x.2.length ≤ 100) → (s.foldl lookP m).length ≤ m.length + 200 * s.length
  | [], m, _ => Nat.le_refl _
  | x :: s, m, h => by
    have h1 := lastP_len s (lookP m x) fun y hy => h y (List.mem_cons_of_mem _ hy)
    have h2 := lookP_len x.1 x.2 m
    have h3 := h x List.mem_cons_self
    have e : lookP m (x.1, x.2) = lookP m x := rfl
    rw [e] at h2
    rw [List.foldl_cons, List.length_cons]; omega
/-! ### slots -/
theorem le_slH {H : Hp} {x C dx : Addr} {vs vs' : List (Option V)} (h : H x = some (SlX.SlO x C dx vs)) (hd : H dx = some (.xd [])) : Le H (SlX.slH H x C dx vs') := fun a o ha hi => by
  have h1 : a ≠ x := fun e => by subst e; rw [h] at ha; cases ha; cases hi
  have h2 : a ≠ dx := fun e => by subst e; rw [hd] at ha; cases ha; cases hi
  rw [SlX.slH_ne h1 h2]; exact ha
theorem same_slH {H0 H : Hp} {x C dx : Addr} {vs : List (Option V)} (s : Same H0 H) (hx : H0 x = none) (hdx : H0 dx = none) : Same H0 (SlX.slH H x C dx vs) := fun a o ha => by
  rw [SlX.slH_ne (fun e => by subst e; rw [hx] at ha; cases ha) (fun e => by subst e; rw [hdx] at ha; cases ha)]
  exact s _ _ ha
/-- stored into -/
def Sl2 (H : Hp) (a C dx : Addr) (vs : List (Option V)) : Prop := H a = some (SlX.SlO a C dx vs) ∧ H dx = some (.xd [])
theorem Sl2.slt {H : Hp} {a C dx : Addr} {vs : List (Option V)} (h : Sl2 H a C dx vs) : SlX.Slt H a C dx vs := .inr h
theorem Sl2.same {H H' : Hp} {a C dx : Addr} {vs : List (Option V)} (h : Sl2 H a C dx vs) (s : Same H H') : Sl2 H' a C dx vs := ⟨s _ _ h.1, s _ _ h.2⟩
theorem Sl2.but {H H' : Hp} {a C dx l : Addr} {vs : List (Option V)} (h : Sl2 H a C dx vs) (s : SameBut l H H') (h1 : a ≠ l) (h2 : dx ≠ l) : Sl2 H' a C dx vs := ⟨s _ _ h1 h.1, s _ _ h2 h.2⟩
theorem Sl2.put {H : Hp} {a C dx : Addr} {vs : List (Option V)} (h : dx ≠ a) : Sl2 (SlX.slH H a C dx vs) a C dx vs := ⟨upd_same, by unfold SlX.slH; rw [upd_ne h, upd_same]⟩
def LivP (K : PySem.W.Frag) (se : Seen) (fd : Bool) : Hp → V → Prop := fun H v => ∃ a dx da dl e, v = .ref a ∧ SlX.Slt H a (He.ga K "Living") dx [some (.ref da), some (.bl fd), some e, some (.ref dl)] ∧ DictF keWire H da [] ∧ DictF keWire H dl (mapM dMiss (lastP se))
theorem stb_Liv {K : PySem.W.Frag} {se : Seen} {fd : Bool} : Stb (LivP K se fd) := ⟨fun s ⟨a, dx, da, dl, e, ev, h1, h2, h3⟩ => ⟨a, dx, da, dl, e, ev, slt_same h1 s, h2.le (.of s), h3.le (.of s)⟩⟩
/-- the same, new since H0 -/
def LivN (K : PySem.W.Frag) (se : Seen) (fd : Bool) (H0 : Hp) : Hp → V → Prop := fun H v => ∃ a dx da dl e, v = .ref a ∧ H0 a = none ∧ H0 dx = none ∧ SlX.Slt H a (He.ga K "Living") dx [some (.ref da), some (.bl fd), some e, some (.ref dl)] ∧ DictF keWire H da [] ∧ DictF keWire H dl (mapM dMiss (lastP se))
/-- an __init__, the instance new -/
def spMk2 (C : Addr) (pre : Hp → List V → Prop) (post : Hp → Hp → V → Prop) : Sp := fun vs H Q _ => ∃ x dx vs' H0, vs = .ref x :: vs' ∧ H = upd (upd H0 dx (.own x)) x (.ins C dx []) ∧ H0 x = none ∧ H0 dx = none ∧ dx ≠ x ∧ pre H0 vs' ∧ ∀ H', Same H0 H' → post H0 H' (.ref x) → Q .non H'
theorem ed_make2 {X : Cx} {Hz : Hp} {ρ : Rho} {e : Expr} {es : List Expr} {p pos : Pos} {k : Nat} {C g : Addr} {x : Str} {pre A : Hp → List V → Prop} {post : Hp → Hp → V → Prop} (M : Mk X.K C g) (F : FnR X.prog X.w X.K X.mg X.base CX0 k g (spMk2 C pre post)) (G : GX X (k + 1)) (hm : X.mg x = some (.ref C)) (ha : AD X Hz ρ (e :: es) A) (h : ∀ H vs, Same Hz H → A H vs → pre H vs) (hg : Gl X x := by rfl) (hdb : (x == ("__debug__" : Str)) = false := by decide)
    (he : starEach (e :: es) X.env = (false, eval e X.env) :: starEach es X.env := by rfl) (hpl : (backTo pos (starEach es X.env)).any (·.1) = false := by rfl) : ED X Hz ρ (.Call (.Name x p) (e :: es) [] pos) (fun H v => ∃ H0, Same Hz H0 ∧ post H0 H v) := by
  refine .by (StX.pe_makeR (E := E0) M F G.room hg hm pass0 pa_W hdb he hpl) fun σ H Q E q => ?_
  refine ha.run σ H _ E fun vs H1 s1 p1 => fun x dx hx hdx hne => ?_
  exact ⟨x, dx, vs, H1, rfl, rfl, hx, hdx, hne, h H1 vs (E.s0.trans s1) p1, fun H' s' po => ⟨rfl, q _ H' (s1.trans s') ⟨H1, E.s0.trans s1, po⟩⟩⟩
section
variable {P : Program} {w : World}
variable {K : PySem.W.Frag} {mg : Str → Option Value} {base : Heap}
theorem Ty.sL (T : Ty K mg) : SlX.SCls K (He.ga K "Living") := scl_of (T.xscl (by decide))
theorem Ty.sA (T : Ty K mg) : SlX.SCls K (He.ga K "Account") := scl_of (T.xscl (by decide))
theorem Ty.sl (T : Ty K mg) {C f : Str} {i : Nat} (h : (C, f, i) ∈ exSl) : SlX.Slot1 K (He.ga K C) f (He.ma K (He.ga K C) f) i := slot_of (T.xsl h)
theorem ok_linit (T : Ty K mg) : MethOk P w K mg base 3 "Living" "__init__" (fun vs H Q E => ∃ (B : Boards) (se : Seen) (dy : D), spMk2 (He.ga K "Living") (fun H vs => RepL H [oSeen K B se, .tup [], dy] vs ∧ GoodB B ∧ SeenOk B se ∧ DyOk dy) (LivN K se (dyB dy)) vs H Q E) := by
  refine T.tx.m_Living___init__ (fun vs H Q E ⟨B, l, dy, x, dx, vs', H0, ev, _, _, _, _, ⟨r, _⟩, _⟩ => by subst ev; have := r.length; simp at this; simp [← this]) fun X vs H Q E ⟨f, cdv, A, outer, s, e⟩ G ⟨B, se, dy, x, dx, vs', H0, ev, eH, hx, hdx, hne, ⟨r, hB, hs, hdy⟩, q⟩ => ?_
  subst e ev
  have h1 := hs.h1
  have E0 : Env [some (rf x), some (R (oSeen K B se)), some (R (.tup [])), some (R dy), none, none, none, none] (L2.start N_Living___init__ (.ref x :: vs')) H0 := env_p (N := N_Living___init__) (Ps' := [rf x, R (oSeen K B se), R (.tup []), R dy]) (vs := .ref x :: vs') (H := H0) (.cons rfl r.pairR)
  have sH : Same H0 H := by rw [eH]; exact same_new hx hdx
  have hxH : SlX.Slt H x (He.ga K "Living") dx [] := .inl ⟨by rw [eH]; exact upd_same, rfl⟩
  have hdH : H dx = some (.own x) := by rw [eH, upd_ne hne]; exact upd_same
  have hd : Dim B := hB.dim
  refine s_slot (P := fun H' v => ∃ d, v = .ref d ∧ H d = none ∧ DictT keWire H' d (allT [])) T.sL (T.sl (C := "Living") (f := "own_alive") (i := 0) (by simp [exSl])) (E0.same sH) hxH ⟨fun s ⟨d, e, n, h⟩ => ⟨d, e, n, h.same s⟩⟩ (fun Hz => ed_var 0 rfl) (ed_dcT (kd := dWire) (L := []) (ρ' := fun _ => []) keyE_wire G [("wire", 7)] (src_tup (er_var (d := .tup []) 2 rfl)) (blkOk_by (N := N_Living___init__) (sc := defScope s_Living___init__) (by decide +kernel)) (by decide) List.nodup_nil
      (fun s H0 C cl fp x hx => (by cases hx)) (fun s H0 C cl fp x hx => (by cases hx)) fun s H0 C cl fp x hx => (by cases hx)) fun v1 H1 s1 ⟨da, ev, hdn, hD⟩ => ?_
  subst ev
  obtain ⟨us, hda, rda⟩ := hD
  cases rda
  have hdx1 := s1 _ _ hdH
  have hax : da ≠ x := fun z => by
    rcases hxH with ⟨h1, _⟩ | ⟨h1, _⟩
    · rw [z, h1] at hdn; cases hdn
    · rw [z, h1] at hdn; cases hdn
  have hadx : da ≠ dx := fun z => by rw [z, hdH] at hdn; cases hdn
  have ha0 : H0 da = none := by
    cases h : H0 da with
    | none => rfl
    | some o => rw [sH _ _ h] at hdn; cases hdn
  have s02 : Same H0 (SlX.slH H1 x (He.ga K "Living") dx (SlX.putS 0 (.ref da) [])) := same_slH (sH.trans s1) hx hdx
  have S2 : Sl2 (SlX.slH H1 x (He.ga K "Living") dx (SlX.putS 0 (.ref da) [])) x (He.ga K "Living") dx [some (.ref da)] := Sl2.put hne
  have hda2 : (SlX.slH H1 x (He.ga K "Living") dx (SlX.putS 0 (.ref da) [])) da = some (.dT []) := by rw [SlX.slH_ne hax hadx]; exact hda
  generalize SlX.slH H1 x (He.ga K "Living") dx (SlX.putS 0 (.ref da) []) = H2 at s02 S2 hda2 ⊢
  refine s_freeze hda2 trivial fun od => ?_
  have F3 : DictF keWire (upd H2 da (.frz od (.dT []))) da [] := ⟨[], od, upd_same, .nil⟩
  have s03 := same_put (o := .frz od (.dT [])) s02 ha0
  have S3 : Sl2 (upd H2 da (.frz od (.dT []))) x (He.ga K "Living") dx [some (.ref da)] := S2.but .upd hax.symm hadx.symm
  generalize upd H2 da (.frz od (.dT [])) = H3 at F3 s03 S3 ⊢
  refine s_slot T.sL (T.sl (C := "Living") (f := "own_dying") (i := 1) (by simp [exSl])) (E0.same s03) S3.slt stb_R (fun Hz => ed_var 0 rfl) (er_isT hdy (er_var 3 rfl)) fun v2 H4 s4 r2 => ?_
  cases r2
  have S4 := S3.same s4
  have F5 := F3.le ((Le.of s4).trans (le_slH (vs' := SlX.putS 1 (.bl (dyB dy)) [some (.ref da)]) S4.1 S4.2))
  have s05 : Same H0 (SlX.slH H4 x (He.ga K "Living") dx (SlX.putS 1 (.bl (dyB dy)) [some (.ref da)])) := same_slH (s03.trans s4) hx hdx
  have S5 : Sl2 (SlX.slH H4 x (He.ga K "Living") dx (SlX.putS 1 (.bl (dyB dy)) [some (.ref da)])) x (He.ga K "Living") dx [some (.ref da), some (.bl (dyB dy))] := Sl2.put hne
  generalize SlX.slH H4 x (He.ga K "Living") dx (SlX.putS 1 (.bl (dyB dy)) [some (.ref da)]) = H5 at F5 s05 S5 ⊢
  obtain ⟨se', xl, rfl⟩ : ∃ se' xl, se = se' ++ [xl] := by
    have := hs.h0
    exact ⟨se.dropLast, se.getLast (fun e => by rw [e] at this; cases this), (List.dropLast_concat_getLast _).symm⟩
  refine s_slot T.sL (T.sl (C := "Living") (f := "own_end") (i := 2) (by simp [exSl])) (E0.same s05) S5.slt stb_R (fun Hz => ed_var 0 rfl) (er_ixt (ds := [.int xl.1, oP K B xl.2]) (i := 0) (d := .int xl.1) (er_ixt (i := -1) (er_var (d := oSeen K B (se' ++ [xl])) 1 rfl) (er_negI er_int) (by rw [List.map_append]; exact atI_last _ _)) er_int rfl) fun v3 H6 s6 r3 => ?_
  have S6 := S5.same s6
  have F7 := F5.le ((Le.of s6).trans (le_slH (vs' := SlX.putS 2 v3 [some (.ref da), some (.bl (dyB dy))]) S6.1 S6.2))
  have s07 : Same H0 (SlX.slH H6 x (He.ga K "Living") dx (SlX.putS 2 v3 [some (.ref da), some (.bl (dyB dy))])) := same_slH (s05.trans s6) hx hdx
  have S7 : Sl2 (SlX.slH H6 x (He.ga K "Living") dx (SlX.putS 2 v3 [some (.ref da), some (.bl (dyB dy))])) x (He.ga K "Living") dx [some (.ref da), some (.bl (dyB dy)), some v3] := Sl2.put hne
  generalize SlX.slH H6 x (He.ga K "Living") dx (SlX.putS 2 v3 [some (.ref da), some (.bl (dyB dy))]) = H7 at F7 s07 S7 ⊢
  refine s_slot T.sL (T.sl (C := "Living") (f := "own_last") (i := 3) (by simp [exSl])) (E0.same s07) S7.slt stb_NewT (fun Hz => ed_var 0 rfl) (ed_dnewT keWire) fun v4 H8 s8 ⟨dl, ev, hln, hL⟩ => ?_
  subst ev
  have S8 := S7.same s8
  have hl8 := hL
  have hlx : dl ≠ x := fun z => by rw [z, S7.1] at hln; cases hln
  have hldx : dl ≠ dx := fun z => by rw [z, S7.2] at hln; cases hln
  have hl0 : H0 dl = none := by
    cases h : H0 dl with
    | none => rfl
    | some o => rw [s07 _ _ h] at hln; cases hln
  have hlda : da ≠ dl := fun z => by obtain ⟨_, _, e, _⟩ := F7; rw [z, hln] at e; cases e
  have F9 := F7.le ((Le.of s8).trans (le_slH (vs' := SlX.putS 3 (.ref dl) [some (.ref da), some (.bl (dyB dy)), some v3]) S8.1 S8.2))
  have s09 : Same H0 (SlX.slH H8 x (He.ga K "Living") dx (SlX.putS 3 (.ref dl) [some (.ref da), some (.bl (dyB dy)), some v3])) := same_slH (s07.trans s8) hx hdx
  have S9 : Sl2 (SlX.slH H8 x (He.ga K "Living") dx (SlX.putS 3 (.ref dl) [some (.ref da), some (.bl (dyB dy)), some v3])) x (He.ga K "Living") dx [some (.ref da), some (.bl (dyB dy)), some v3, some (.ref dl)] := Sl2.put hne
  have hL9 : DictT keWire (SlX.slH H8 x (He.ga K "Living") dx (SlX.putS 3 (.ref dl) [some (.ref da), some (.bl (dyB dy)), some v3])) dl (mapM dMiss []) := by
    obtain ⟨us, e, r⟩ := hL
    cases r
    exact ⟨[], by rw [SlX.slH_ne hlx hldx]; exact e, .nil⟩
  generalize SlX.slH H8 x (He.ga K "Living") dx (SlX.putS 3 (.ref dl) [some (.ref da), some (.bl (dyB dy)), some v3]) = H9 at F9 s09 S9 hL9 ⊢
  generalize hse : se' ++ [xl] = se at *
  have hs100 : ∀ x ∈ se, x.2.length ≤ 100 := fun x hx => (hs.lit x hx).len hB
  refine s_forS G .never (E0.same s09) (srcT_tup (er_var (d := oSeen K B se) 1 rfl)) fun Ha sa Ea => ?_
  refine ⟨fun i σ' H' => Le Ha H' ∧ SameBut dl Ha H' ∧ DictT keWire H' dl (mapM dMiss ((se.take i).foldl lookP [])) ∧ Env [some (rf x), some (R (oSeen K B se)), some (R (.tup [])), some (R dy), none, none, none, none] σ' H', ?_, ?_, ?_, ?_⟩
  · exact ⟨Le.refl _, .refl _ _, hL9.same sa, Ea⟩
  · rintro i σ' H' ⟨h, _⟩; exact h
  · rintro i d v σ' H' H'' hd ⟨la, ba, hL, E3⟩ s3 rd
    obtain ⟨y, hy, rfl⟩ := get_map hd
    have hym : y ∈ se := List.mem_of_getElem? hy
    refine g_tup2 4 5 G rd fun u1 u2 ru1 ru2 => ?_
    have E4 := ((E3.same s3).set 4 (P := R (.int y.1)) ru1).set 5 (P := R (oP K B y.2)) ru2
    have hlx2 := hs100 _ hym
    have hil := lt_of_get hy
    have hm0 : ((se.take i).foldl lookP []).length ≤ 200 * 12 := Nat.le_trans (lastP_len _ [] fun z hz => hs100 z (List.mem_of_mem_take hz)) (by rw [List.length_take]; simp; omega)
    refine s_forS G .never E4 (srcT_tup (er_pdots (B := B) (l := y.2) T (G.mono (by decide)) (ed_obj (er_var 5 rfl)))) fun Hb sb Eb => ?_
    refine ⟨fun j σ' H' => Le Hb H' ∧ SameBut dl Hb H' ∧ DictT keWire H' dl (mapM dMiss (lookP ((se.take i).foldl lookP []) (y.1, y.2.take j))) ∧ Env [some (rf x), some (R (oSeen K B se)), some (R (.tup [])), some (R dy), some (R (.int y.1)), some (R (oP K B y.2)), none, none] σ' H', ?_, ?_, ?_, ?_⟩
    · exact ⟨Le.refl _, .refl _ _, (hL.same s3).same sb, Eb⟩
    · rintro j σ' H' ⟨h, _⟩; exact h
    · rintro j d v σ' H6' H7' hd ⟨lb, bb, hL6, E6⟩ s7 rd
      obtain ⟨z, hz, rfl⟩ := get_map hd
      refine g_name 6 G ?_
      have E7 := (E6.same s7).set 6 (P := R (dDot z)) rd
      have hj := lt_of_get hz
      have hlen := lookP_len y.1 (y.2.take j) ((se.take i).foldl lookP [])
      rw [List.length_take] at hlen
      refine s_forS G .never E7 (srcT_tup (er_call (ok_wires_at T) (G.mono (by decide)) z trivial (ad_one (er_var 6 rfl)))) fun Hc sc Ec => ?_
      refine ⟨fun n σ' H' => n ≤ 2 ∧ Le Hc H' ∧ SameBut dl Hc H' ∧ DictT keWire H' dl (mapM dMiss (((wsAt z).take n).foldl (fun m w => putM m w (y.1, z)) (lookP ((se.take i).foldl lookP []) (y.1, y.2.take j)))) ∧ Env [some (rf x), some (R (oSeen K B se)), some (R (.tup [])), some (R dy), some (R (.int y.1)), some (R (oP K B y.2)), some (R (dDot z)), none] σ' H', ?_, ?_, ?_, ?_⟩
      · exact ⟨by decide, Le.refl _, .refl _ _, (hL6.same s7).same sc, Ec⟩
      · rintro n σ' H' ⟨_, h, _⟩; exact h
      · rintro n d v σ' H8' H9' hd ⟨hn2, lc, bc, hL8, E8⟩ s9 rd
        have hd' : ((wsAt z).map dWire)[n]? = some d := hd
        obtain ⟨u, hu, rfl⟩ := get_map hd'
        refine g_name 7 G ?_
        have Ed := (E8.same s9).set 7 (P := R (dWire u)) rd
        have hn := lt_of_get hu
        have hml : (((wsAt z).take n).foldl (fun m w => putM m w (y.1, z)) (lookP ((se.take i).foldl lookP []) (y.1, y.2.take j))).length ≤ (lookP ((se.take i).foldl lookP []) (y.1, y.2.take j)).length + n := by
          have : ∀ (l : List Wire) (m : LastM), (l.foldl (fun m w => putM m w (y.1, z)) m).length ≤ m.length + l.length := by
            intro l
            induction l with
            | nil => intro m; exact Nat.le_refl _
            | cons a l ih =>
              intro m
              have h1 := ih (putM m a (y.1, z))
              have h2 := putM_le m a (y.1, z)
              rw [List.foldl_cons, List.length_cons]; omega
          have h := this ((wsAt z).take n) (lookP ((se.take i).foldl lookP []) (y.1, y.2.take j))
          rw [List.length_take] at h
          omega
        have hSd : SlX.Slt H9' x (He.ga K "Living") dx [some (.ref da), some (.bl (dyB dy)), some v3, some (.ref dl)] := by
          have b1 : SameBut dl H9 H9' := (SameBut.of sa).trans (ba.trans ((SameBut.of s3).trans ((SameBut.of sb).trans (bb.trans ((SameBut.of s7).trans ((SameBut.of sc).trans (bc.trans (.of s9))))))))
          exact (S9.but b1 hlx.symm hldx.symm).slt
        refine s_dput (x := u) (d := dMiss (y.1, z)) keyE_wire G Ed (hL8.same s9) (by unfold mapM; rw [List.length_map]; omega) (ed_slotAt (u := .ref dl) T.sL (T.sl (C := "Living") (f := "own_last") (i := 3) (by simp [exSl])) hSd rfl (ed_var 0 rfl)) (er_var 7 rfl) (er_t2 (er_var 4 rfl) (er_var 6 rfl)) fun He se' hLe Ee => s_nil ?_
        have leE : Le H9' He := by obtain ⟨_, e, _⟩ := hL8.same s9; exact se'.le e rfl
        rw [putM_map] at hLe
        refine ⟨hn, (lc.trans (.of s9)).trans leE, (bc.trans (.of s9)).trans se', ?_, Ee.fg (.k (.k (.k (.k (.k (.k (.k (.d .nil))))))))⟩
        rw [foldl_take _ _ hu]
        exact hLe
      · rintro σ' H' ⟨_, lc, bc, hL8, E8⟩
        refine s_nil ⟨((lb.trans (.of s7)).trans (.of sc)).trans lc, ((bb.trans (.of s7)).trans (.of sc)).trans bc, ?_, E8.fg (.k (.k (.k (.k (.k (.k (.d (.k .nil))))))))⟩
        have e : lookP ((se.take i).foldl lookP []) (y.1, y.2.take (j + 1)) = dotP (lookP ((se.take i).foldl lookP []) (y.1, y.2.take j)) (y.1, z) := by
          unfold lookP
          dsimp only
          rw [foldl_take _ _ hz]
        rw [e]
        exact hL8
    · rintro σ' H' ⟨lb, bb, hL6, E6⟩
      rw [List.length_map, List.take_length] at hL6
      refine s_nil ⟨((la.trans (.of s3)).trans (.of sb)).trans lb, ((ba.trans (.of s3)).trans (.of sb)).trans bb, ?_, E6.fg (.k (.k (.k (.k (.d (.d (.k (.k .nil))))))))⟩
      rw [foldl_take _ _ hy]
      exact hL6
  · rintro σ' H' ⟨la, ba, hL, E3⟩
    rw [List.length_map, List.take_length] at hL
    obtain ⟨us, hd7, _⟩ := id hL
    refine s_freeze hd7 trivial fun od => s_nil ?_
    have b1 : SameBut dl H9 H' := (SameBut.of sa).trans ba
    have s10 : Same H0 H' := b1.same s09 hl0
    have s11 := same_put (o := .frz od (.dT ((List.map (fun e => keWire e.1) (mapM dMiss (lastP se))).zip us))) s10 hl0
    have S10 := S9.but b1 hlx.symm hldx.symm
    have le7 : Le H' (upd H' dl (.frz od (.dT ((List.map (fun e => keWire e.1) (mapM dMiss (lastP se))).zip us)))) := Le.upd hd7 rfl
    exact q _ s11 ⟨x, dx, da, dl, v3, rfl, hx, hdx, (S10.but .upd hlx.symm hldx.symm).slt, F9.le (((Le.of sa).trans la).trans le7), hL.frz hd7 od⟩
end
end K31
namespace K31
open L2 PySem PySem.Spec PyProof.Rows
section
variable {P : Program} {w : World}
variable {K : PySem.W.Frag} {mg : Str → Option Value} {base : Heap}
theorem ok_mayP (T : Ty K mg) : MethOk P w K mg base 1 "Living" "may_be_dead" (fun vs H Q _ => ∃ (se : Seen) (fd : Bool) (x : Wire) (t : Int) (v : V) (vs' : List V), vs = v :: vs' ∧ LivP K se fd H v ∧ RepL H [dWire x, .int t] vs' ∧ ∀ H', Same H H' → Q (.bl (mayD (lastOf se) fd x t)) H') := by
  refine T.tx.m_Living_may_be_dead (fun vs H Q E ⟨se, fd, x, t, v, vs', ev, _, r, _⟩ => by subst ev; have := r.length; simp at this; simp [← this]) fun X vs H Q E ⟨f, cdv, A, outer, s, e⟩ G ⟨se, fd, x, t, v, vs', ev, ⟨a, dx, da, dl, ee, eva, hS, hA, hL⟩, r, q⟩ => ?_
  subst e ev eva
  have E := env_p (N := N_Living_may_be_dead) (Ps' := [rf a, R (dWire x), R (.int t)]) (vs := .ref a :: vs') (H := H) (.cons rfl r.pairR)
  refine s_skip E (.is (td_din (m := []) keyE_wire G hA.r (ed_slotAt (u := .ref da) T.sL (T.sl (C := "Living") (f := "own_alive") (i := 0) (by simp [exSl])) hS rfl (ed_var 0 rfl)) (er_var 1 rfl)) rfl) fun H1 s1 E1 => ?_
  have hS1 := slt_same hS s1
  have hL1 := (hL.le (.of s1)).r
  have eg : getM (lastOf se) x = (getM (lastP se) x).map (·.1) := by
    rw [← getM_pr]
    show getM (lastOf se) x = getM (prM (se.foldl lookP [])) x
    rw [prM_last]; rfl
  have egm : getM (mapM dMiss (lastP se)) x = (getM (lastP se) x).map dMiss := getM_map dMiss x _
  refine s_ret E1 (P := fun H v => Rep H (.bl (mayD (lastOf se) fd x t)) v) ?_ fun v H' s r => by cases r; exact q H' (s1.trans s)
  unfold mayD
  rw [eg]
  cases hg : getM (lastP se) x with
  | none =>
    refine ER.is (er_or (k := true) (l := true) (.is (er_dnin (m := mapM dMiss (lastP se)) keyE_wire G hL1 (ed_slotAt (u := .ref dl) T.sL (T.sl (C := "Living") (f := "own_last") (i := 3) (by simp [exSl])) hS1 rfl (ed_var 0 rfl)) (er_var 1 rfl)) (by rw [egm, hg]; rfl)) fun h => by cases h) rfl
  | some z =>
    refine ER.is (er_or (k := false) (l := fd && decide (z.1 < t)) (.is (er_dnin (m := mapM dMiss (lastP se)) keyE_wire G hL1 (ed_slotAt (u := .ref dl) T.sL (T.sl (C := "Living") (f := "own_last") (i := 3) (by simp [exSl])) hS1 rfl (ed_var 0 rfl)) (er_var 1 rfl)) (by rw [egm, hg]; rfl)) fun _ => er_and (ED.imp (ed_slotAt (u := .bl fd) T.sL (T.sl (C := "Living") (f := "own_dying") (i := 1) (by simp [exSl])) hS1 rfl (ed_var 0 rfl)) fun H v e => by subst e; exact .bl _) fun _ => er_lt (er_ixt (ds := [.int z.1, dDot z.2]) (er_dget (m := mapM dMiss (lastP se)) (d := dMiss z) keyE_wire G hL1 (ed_slotAt (u := .ref dl) T.sL (T.sl (C := "Living") (f := "own_last") (i := 3) (by simp [exSl])) hS1 rfl (ed_var 0 rfl)) (er_var 1 rfl) (by rw [egm, hg]; rfl)) er_int rfl) (er_var 2 rfl)) (by simp)
theorem dOpt_isAny (o : Option Int) : (dOpt o).isAny = false := by cases o <;> rfl
theorem er_mayP {X : Cx} {Hz : Hp} {ρ : Rho} {a : Addr} {e1 e2 o : Expr} {apos pos : Pos} {se : Seen} {fd : Bool} {x : Wire} {t : Int} (T : Ty X.K X.mg) (G : GX X 1) (hl : LivP X.K se fd Hz (.ref a)) (ho : ED X Hz ρ o (rf a).p) (h1 : ER X Hz ρ e1 (dWire x)) (h2 : ER X Hz ρ e2 (.int t))
    (hst : starEach [e1, e2] X.env = (false, eval e1 X.env) :: starEach [e2] X.env := by rfl) (hs2 : starEach [e2] X.env = (false, eval e2 X.env) :: starEach [] X.env := by rfl) (hpl : (backTo pos (starEach [e2] X.env)).any (·.1) = false := by rfl) {pl : Sem Bool}
    (ht : eval (.Call (.Attribute o "may_be_dead" apos) [e1, e2] [] pos) X.env = (do
      let ov ← eval o X.env
      standAt apos.atName
      let z ← holding [ov] (getMethod ov "may_be_dead" pl)
      callWith pos z.1 z.2 (backTo pos (starEach [e1, e2] X.env)) (backToKw pos (keywordEach [] X.env))) := by rfl) : ER X Hz ρ (.Call (.Attribute o "may_be_dead" apos) [e1, e2] [] pos) (.bl (mayD (lastOf se) fd x t)) :=
  ed_methSl (PO := fun H v => v = .ref a ∧ LivP X.K se fd H v) (A := fun H vs => RepL H [dWire x, .int t] vs) T.sL (T.methX (x := "Living") (m := "may_be_dead") (by simp [exFa])) (ok_mayP (P := X.prog) (w := X.w) (base := X.base) T) G (fun H v ⟨_, a, dx, da, dl, ee, eva, hS, _⟩ => ⟨a, dx, _, eva, hS⟩) ⟨fun s ⟨e, h⟩ => ⟨e, stb_Liv.st s h⟩⟩
    ⟨fun σ H Q E q => ho.run σ H Q E fun v H1 s1 ev => q v H1 s1 ⟨ev, by obtain rfl : v = .ref a := ev; exact stb_Liv.st (E.s0.trans s1) hl⟩⟩ (ad_cons h1 (ad_one h2 hs2) hst)
    (fun v vs H s po pa Q q => ⟨se, fd, x, t, v, vs, rfl, po.2, pa, fun H' s' => q _ H' s' (.bl _)⟩) hst hpl ht
theorem ok_edge (T : Ty K mg) : MethOk P w K mg base 2 "Living" "edge" (fun vs H Q _ => ∃ (se : Seen) (fd : Bool) (x : Int × Dot) (v : V) (vs' : List V), vs = v :: vs' ∧ LivP K se fd H v ∧ RepL H [.int x.1, dDot x.2] vs' ∧ ∀ z H', Same H H' → Rep H' (dEdge (edgeAt (lastOf se) fd x)) z → Q z H') := by
  refine T.tx.m_Living_edge (fun vs H Q E ⟨se, fd, x, v, vs', ev, _, r, _⟩ => by subst ev; have := r.length; simp at this; simp [← this]) fun X vs H Q E ⟨f, cdv, A, outer, s, e⟩ G ⟨se, fd, x, v, vs', ev, hl, r, q⟩ => ?_
  obtain ⟨a, eva⟩ : ∃ a, v = .ref a := let ⟨a, _, _, _, _, e, _⟩ := hl; ⟨a, e⟩
  subst e ev eva
  have E := env_p (N := N_Living_edge) (Ps' := [rf a, R (.int x.1), R (dDot x.2)]) (vs := .ref a :: vs') (H := H) (.cons rfl r.pairR)
  refine s_unp2 3 4 (d := dWire (sRow, x.2.1)) (d' := dWire (sCol, x.2.2)) G E (er_call (ok_wires_at T) (G.mono (by decide)) x.2 trivial (ad_one (er_var 2 rfl))) fun σ1 H1 s1 E1 => ?_
  have hl1 := stb_Liv.st s1 hl
  refine s_set 5 (d := dOpt (edgeAt (lastOf se) fd x).1) G E1 (.is (er_if (td_val (er_mayP (a := a) T G hl1 (ed_var 0 rfl) (er_var 3 rfl) (er_var 1 rfl))) (fun _ => er_ixt (er_var (d := dDot x.2) 2 rfl) er_int rfl) fun _ => er_non) (by
    unfold edgeAt
    dsimp only
    cases mayD (lastOf se) fd (sRow, x.2.1) x.1 <;> rfl)) fun σ2 H2 s2 E2 => ?_
  have hl2 := stb_Liv.st s2 hl1
  refine s_ret E2 (er_t2 (er_var (d := dOpt (edgeAt (lastOf se) fd x).1) 5 rfl) (ER.is (d' := dOpt (edgeAt (lastOf se) fd x).2) (er_if (td_val (er_mayP (a := a) T G hl2 (ed_var 0 rfl) (er_var 4 rfl) (er_var 1 rfl))) (fun _ => er_ixt (er_var (d := dDot x.2) 2 rfl) er_int rfl) fun _ => er_non) (by
    unfold edgeAt
    dsimp only
    cases mayD (lastOf se) fd (sCol, x.2.2) x.1 <;> rfl))) fun v H' s r => q v H' (s1.trans (s2.trans s)) r
end
end K31
namespace K31
open L2 PySem PySem.Spec PyProof.Rows
/-! ### dicts whose keys are edges: pairs of numbers or None -/
def oK : Option Key → V
  | none => .non
  | some k => kV k
theorem oK_is {P : Program} {w : World} {k : Option Key} {u : Value} (r : RelV (oK k) u) : (noneKind P w).is k u = true := by
  cases k with
  | none => obtain rfl : u = .none := r; rfl
  | some k => exact kV_is (P := P) (w := w) r
theorem oItems {P : Program} {w : World} : ∀ {ks : List (Option Key)} {us : List Value}, Vals (ks.map oK) us → ItemsAre (noneKind P w) ks us
  | [], _, r => (by rw [List.map_nil] at r; cases r; exact .nil)
  | k :: ks, _, r => by
    rw [List.map_cons] at r
    cases r with
    | cons h t => exact .cons (oK_is h) (oItems t)
theorem key_ofN {P : Program} {w : World} {H : Hp} {h : Heap} {a : Addr} {ks : List (Option Key)} (ok : HOk P w H h) (e : H a = some (.tup (ks.map oK))) : (tupleKind (noneKind P w)).is h ks a := by
  obtain ⟨_, its, r, o, h1, h2, n, h3⟩ := (show ObjOk P w H h a (.tup (ks.map oK)) from ok a _ e)
  exact ⟨o, its.toArray, n, h1, h2, h3, by simpa using oItems r⟩
abbrev EdX := List (List (Option Key) × Addr × Value)
def keE (e : Edge) : List (Option Key) := [e.1.map Sum.inl, e.2.map Sum.inl]
theorem keE_inj {a b : Edge} (h : keE a = keE b) : a = b := by
  obtain ⟨a1, a2⟩ := a
  obtain ⟨b1, b2⟩ := b
  unfold keE at h
  injection h with h1 h2
  injection h2 with h2 _
  have inj : ∀ {x y : Option Int}, x.map (Sum.inl (β := Str)) = y.map Sum.inl → x = y := by
    intro x y h
    cases x <;> cases y <;> simp_all
  have e1 : a1 = b1 := inj h1
  have e2 : a2 = b2 := inj h2
  rw [e1, e2]
def EdP (P : Program) (w : World) (d : Addr) (xs : EdX) : Heap → Prop := fun h => (d == sysModules) = false ∧ ∃ o es ep, h.get? d = some o ∧ o.ExactDict ∧ o.data = .dict es ep ∧ es.toList = xs.map (entryOfKey (tupleKind (noneKind P w)))
structure EdOk (H : Hp) (xs : EdX) (es : List Edge) : Prop where
  k : xs.map (·.1) = es.map keE
  t : ∀ x ∈ xs, H x.2.1 = some (.tup (x.1.map oK))
  v : ∀ x ∈ xs, ∃ b, x.2.2 = .ref b
def EdS (P : Program) (w : World) (H : Hp) (l : Addr) (es : List Edge) : Prop := es.Nodup ∧ ∃ xs, (H l = some (.ext (EdP P w l xs)) ∨ (xs = [] ∧ H l = some (.dT []))) ∧ EdOk H xs es
theorem EdOk.le {H H' : Hp} {xs : EdX} {es : List Edge} (h : EdOk H xs es) (l : Le H H') : EdOk H' xs es := ⟨h.k, fun x hx => l.tup (h.t x hx), h.v⟩
theorem EdS.same {P : Program} {w : World} {H H' : Hp} {l : Addr} {es : List Edge} (h : EdS P w H l es) (s : Same H H') : EdS P w H' l es := let ⟨n, xs, e, ok⟩ := h; ⟨n, xs, e.elim (fun e => .inl (s _ _ e)) fun ⟨e1, e⟩ => .inr ⟨e1, s _ _ e⟩, ok.le (.of s)⟩
theorem EdS.mut {P : Program} {w : World} {H : Hp} {l : Addr} {es : List Edge} (h : EdS P w H l es) : ∃ o, H l = some o ∧ Imm o = false ∧ Mut (some o) ∧ ∀ vs, o ≠ .tup vs := by
  obtain ⟨_, xs, e | ⟨_, e⟩, _⟩ := h
  · exact ⟨_, e, rfl, trivial, by intro _ z; cases z⟩
  · exact ⟨_, e, rfl, trivial, by intro _ z; cases z⟩
section
variable {X : Cx} {pins : List (Addr × Obj)} {σ : L2.St} {H : Hp} {s : Shared} {l : Addr} {es : List Edge}
theorem ed_dict (I : Inv X pins σ H s) (h : EdS X.prog X.w H l es) : (l == sysModules) = false ∧ ∃ xs, EdOk H xs es ∧ s.heap.DictOfH (tupleKind (noneKind X.prog X.w)) l xs := by
  obtain ⟨nd, xs, e, ok⟩ := h
  have hn : (xs.map (·.1)).Nodup := by
    rw [ok.k]
    exact nodup_mapOn nd fun a _ b _ e => keE_inj e
  have key : ∀ x ∈ xs, (tupleKind (noneKind X.prog X.w)).is s.heap x.1 x.2.1 := fun x hx => key_ofN I.hok (ok.t x hx)
  rcases e with e | ⟨rfl, e⟩
  · obtain ⟨⟨hd, o, es', ep, h1, h2, h3, h4⟩, _⟩ := (show ObjOk X.prog X.w H s.heap l (.ext _) from I.hok l _ e)
    exact ⟨hd, xs, ok, o, es', ep, h1, h2, h3, h4, key, hn⟩
  · obtain ⟨_, hd, ys, rel, o, es', ep, h1, h2, h3, h4, _, _⟩ := dt_of I.hok e
    cases rel
    exact ⟨hd, [], ok, o, es', ep, h1, h2, h3, h4, key, hn⟩
theorem setd_E {A : Around} {E : Value → Shared → Prop} {b c : Addr} {ed : Edge} {Q : Value → Shared → Prop} (hu : A.in1.units < cLine) (I : Inv X pins σ H s) (h : EdS X.prog X.w H l es) (hz : es.length < sizeLine) (hb : H b = some (.tup ((keE ed).map oK)))
    (h1 : ed ∈ es → ∀ (v : Addr) (s' : Shared), Inv X pins σ H s' → Q (.ref v) s') (h2 : ed ∉ es → ∀ (H' : Hp) (s' : Shared), SameBut l H H' → Le H H' → EdS X.prog X.w H' l (es ++ [ed]) → Inv X pins σ H' s' → Q (.ref c) s') :
    wpAny (model X.prog X.w) A (call (.builtin "dict.setdefault") [.ref l, .ref b, .ref c]) Q E s := by
  obtain ⟨hd, xs, ok, dd⟩ := ed_dict I h
  obtain ⟨o0, ho0, hi0, hm0, ht0⟩ := h.mut
  have hlen : xs.length = es.length := by have := congrArg List.length ok.k; rwa [List.length_map, List.length_map] at this
  refine call_setdefault_heap (hsz := by omega) hu (key_ofN I.hok hb) hd dd (fun p hp => ?_) fun hn h' dd' sb => ?_
  · unfold atKey at hp
    cases hf : xs.find? (fun x => decide (x.1 = keE ed)) with
    | none => rw [hf] at hp; cases hp
    | some x =>
      rw [hf] at hp
      cases hp
      have hx := List.mem_of_find?_eq_some hf
      have hk := List.find?_some hf
      rw [decide_eq_true_eq] at hk
      obtain ⟨v, hv⟩ := ok.v x hx
      rw [hv]
      refine h1 ?_ v _ (I.tok _)
      have : x.1 ∈ es.map keE := by rw [← ok.k]; exact List.mem_map_of_mem hx
      obtain ⟨e', he', e2⟩ := List.mem_map.mp this
      rw [hk] at e2
      rw [← keE_inj e2]; exact he'
  · have hne : ed ∉ es := fun hm => by
      have : keE ed ∈ xs.map (·.1) := by rw [ok.k]; exact List.mem_map_of_mem hm
      obtain ⟨x, hx, e⟩ := List.mem_map.mp this
      unfold atKey at hn
      rw [Option.map_eq_none_iff, List.find?_eq_none] at hn
      exact hn x hx (by rw [decide_eq_true_eq]; exact e)
    rw [storedH_new hn] at dd'
    obtain ⟨o, es', ep, a1, a2, a3, a4, _, _⟩ := dd'
    have le : Le H (upd H l (.ext (EdP X.prog X.w l (xs ++ [(keE ed, b, .ref c)])))) := Le.upd ho0 hi0
    refine h2 hne _ _ .upd le ⟨?_, _, .inl upd_same, ?_⟩ (d_write I (by rw [ho0]; exact hm0) sb ⟨o, a1⟩ ⟨⟨hd, o, es', ep, a1, a2, a3, a4⟩, ⟨o, a1⟩, fun g1 g2 ⟨z1, o', es'', ep', z2, z3, z4, z5⟩ k => ⟨z1, o', es'', ep', k _ z2, z3, z4, z5⟩⟩)
    · rw [List.nodup_append]
      exact ⟨h.1, by simp, fun a ha b hb e => hne (by rw [List.mem_singleton] at hb; rw [← hb, ← e]; exact ha)⟩
    · refine ⟨by rw [List.map_append, List.map_append, ok.k]; rfl, fun x hx => ?_, fun x hx => ?_⟩
      · rcases List.mem_append.mp hx with z | z
        · exact le.tup (ok.t x z)
        · rw [List.mem_singleton.mp z]; exact le.tup hb
      · rcases List.mem_append.mp hx with z | z
        · exact ok.v x z
        · rw [List.mem_singleton.mp z]; exact ⟨c, rfl⟩
end
def addE (es : List Edge) (e : Edge) : List Edge := if e ∈ es then es else es ++ [e]
theorem rep_keE {H : Hp} {ed : Edge} {v : V} (r : Rep H (dEdge ed) v) : ∃ b, v = .ref b ∧ H b = some (.tup ((keE ed).map oK)) := by
  obtain ⟨x, y⟩ := ed
  cases r with
  | tup h r1 =>
    obtain ⟨v1, v2, rfl, ra, rb⟩ := r1.two
    refine ⟨_, rfl, ?_⟩
    rw [h]
    have key : ∀ {o : Option Int} {v : V}, Rep H (dOpt o) v → v = oK (o.map Sum.inl) := by
      intro o v r
      cases o with
      | none => cases r; rfl
      | some i => cases r; rfl
    rw [key ra, key rb]; rfl
theorem keE_rep {H : Hp} {ed : Edge} {b : Addr} (h : H b = some (.tup ((keE ed).map oK))) : Rep H (dEdge ed) (.ref b) := by
  refine .tup h ?_
  obtain ⟨x, y⟩ := ed
  have key : ∀ o : Option Int, Rep H (dOpt o) (oK (o.map Sum.inl)) := by
    intro o
    cases o with
    | none => exact .non
    | some i => exact .int i
  exact .cons (key x) (.cons (key y) .nil)
section
variable {X : Cx} {Hz : Hp} {ρ : Rho} {σ : L2.St} {H : Hp} {D' : Ends} {o e f : Expr} {rest : List Stmt} {pos p apos cpos : Pos} {k : Nat} {l : Addr} {es : List Edge} {ed : Edge} {x : Int × Dot}
theorem s_setE (G : GX X k) (E : Env ρ σ H) (hS : EdS X.prog X.w H l es) (hz : es.length < 100000) (ho : ∀ Hz, ED X Hz ρ o (rf l).p) (he : ER X H ρ e (dEdge ed)) (hf : ∀ Hz, ER X Hz ρ f (dMiss x))
    (q : ∀ H', SameBut l H H' → Le H H' → EdS X.prog X.w H' l (addE es ed) → Env ρ σ H' → WSs X rest D' σ H') (m : M2 X o "setdefault" apos e f cpos := by exact ⟨rfl, rfl, rfl, rfl⟩)
    (hs : swapsWith (.Call (.Attribute o "setdefault" apos) [e, f] [] cpos) none pos.line X.env = pure false := by rfl) : WSs X (.Expr (.Call (.Attribute o "setdefault" apos) [e, f] [] cpos) pos :: rest) D' σ H := by
  refine s_expr (fun pins s I => ?_) hs
  refine wpAny_Call_method m.base m.few m.line PySem.F.plainAttrs_dict PySem.F.slot_dict_setdefault PySem.F.type_dict_setdefault (thn ((ho H).run σ H (fun v H1 => Same H H1 ∧ v = .ref l) E.en (fun v H1 s1 ev => ⟨s1, ev⟩) pins s I) fun u s1 ⟨v, H1, I1, rx, sa, ev⟩ => ?_)
  subst ev
  obtain rfl : u = Value.ref l := rx
  obtain ⟨hd, xs, ok, dd⟩ := ed_dict I1 (hS.same sa)
  refine ⟨dd.typeIs, (fun b q => by cases q; obtain ⟨ob, _, _, h1, h2, _⟩ := dd; exact ⟨ob, h1, h2.2.1⟩), ?_⟩
  rw [m.trees]
  refine Calls.callWith_builtin rfl (Calls.evalArgs_plain (Calls.spliced_cons (thn (he.run σ H1 (fun y H2 => Same H1 H2 ∧ Rep H2 (dEdge ed) y) (E.en.same sa) (fun y H2 s2 r => ⟨s2, r⟩) pins s1 I1) fun iv s2 ⟨y, H2, I2, ry, sb, r2⟩ =>
    Calls.spliced_cons (thn ((hf H2).run σ H2 (fun z H3 => Same H2 H3 ∧ Rep H3 (dMiss x) z) (E.same (sa.trans sb)).en (fun z H3 s3 r => ⟨s3, r⟩) pins s2 I2) fun fv s3 ⟨z, H3, I3, rz, sc, r3⟩ => Calls.spliced_nil ?_))))
  obtain ⟨b, rfl, hb⟩ := rep_keE (r2.le (.of sc))
  obtain rfl : iv = Value.ref b := ry
  obtain ⟨c, rfl⟩ : ∃ c, z = .ref c := by cases r3 with | tup h _ => exact ⟨_, rfl⟩
  obtain rfl : fv = Value.ref c := rz
  have s03 := (sa.trans sb).trans sc
  refine setd_E (A := X.A) G.hu I3 (hS.same s03) (Nat.lt_of_lt_of_le hz (by decide)) hb (fun hm v s' I' => ⟨.ref v, H3, I', rfl, q H3 (.of s03) (.of s03) (by unfold addE; rw [if_pos hm]; exact hS.same s03) (E.same s03)⟩) fun hn H' s' sb' le' hS' I' => ⟨.ref c, H', I', rfl, q H' ((SameBut.of s03).trans sb') ((Le.of s03).trans le') (by unfold addE; rw [if_neg hn]; exact hS') ((E.same s03).le le')⟩
/-- list(d) -/
theorem ed_rep {H : Hp} : ∀ {xs : EdX} {es : List Edge}, EdOk H xs es → RepL H (es.map dEdge) ((xs.map fun x => x.2.1).map V.ref)
  | [], [], _ => .nil
  | [], _ :: _, h => by have := h.k; simp at this
  | _ :: _, [], h => by have := h.k; simp at this
  | x :: xs, e :: es, h => by
    have hk := h.k
    rw [List.map_cons, List.map_cons] at hk
    injection hk with h1 h2
    refine .cons (keE_rep (by rw [← h1]; exact h.t x List.mem_cons_self)) (ed_rep ⟨h2, fun y hy => h.t y (List.mem_cons_of_mem _ hy), fun y hy => h.v y (List.mem_cons_of_mem _ hy)⟩)
def rListE (X : Cx) : List V → Hp → VK → Prop := fun xs H Q => ∃ d es, xs = [V.ref d] ∧ EdS X.prog X.w H d es ∧ es.length ≤ 100000 ∧ ∀ p vs, H p = none → RepL H (es.map dEdge) vs → Q (.ref p) (upd H p (.lst vs))
theorem call_list_E (hc : X.calm = true) : CallR X (.type "list") (rListE X) := by
  rintro pins s σ H xs us Q I r ⟨d, es, rfl, hS, hl, q⟩
  obtain ⟨u, rfl, rx⟩ := r.one
  cases rx
  obtain ⟨hs, ks, ok, o, arr, ep, ho, hx, hdt, he, hi, hn⟩ := ed_dict I hS
  have hsz : arr.size = ks.length := size_of_entries he
  have hke : ks.length = es.length := by have := congrArg List.length ok.k; rwa [List.length_map, List.length_map] at this
  have hsl : (100000 : Nat) ≤ sizeLine := by decide
  refine PySem.W.kdl_call (kdl_raw hs hx hdt) (I.ok.hd hc) ho (by omega) fun h' tk out c' kp eo it => ?_
  have hol : out.toList.length = ks.length := by rw [Array.length_toList, it.1, hsz]
  have ea : out.toList = (ks.map fun x => x.2.1).map Value.ref := by
    refine List.ext_getElem? fun j => ?_; rw [List.getElem?_map, List.getElem?_map]
    by_cases hj : j < ks.length
    · have h1 : out.toList[j]? = some (out.toList[j]'(by omega)) := List.getElem?_eq_getElem (by omega)
      obtain ⟨en, hen, hv⟩ := it.2 j _ ((Array.getElem?_toList ..).symm.trans h1)
      have qe := entry_at he j
      rw [hen, List.getElem?_eq_getElem hj] at qe
      have e2 : en = entryOfKey (tupleKind (noneKind X.prog X.w)) ks[j] := Option.some.inj qe
      rw [h1, hv, e2, List.getElem?_eq_getElem hj]; rfl
    · rw [List.getElem?_eq_none (by omega), List.getElem?_eq_none (by omega)]; rfl
  have rv : Vals ((ks.map fun x => x.2.1).map V.ref) out.toList := by rw [ea]; exact vals_refs _
  refine ⟨.ref s.heap.objs.size, _, I.laid (t' := tk) (o := .lst ((ks.map fun x => x.2.1).map V.ref)) kp (Nat.le_refl _) ⟨?_, out.toList, c', rv, by rw [Array.toArray_toList]; exact eo⟩, rfl, q _ _ (I.hok.fresh (Nat.le_refl _)) (ed_rep ok)⟩; rw [List.length_map, List.length_map]; omega
theorem el_lstE (hc : X.calm = true) (hz : es.length ≤ 100000) (hm : X.mg "list" = none) (h : ED X Hz ρ e (fun H v => ∃ l, v = .ref l ∧ EdS X.prog X.w H l es)) (hg : Gl X "list" := by rfl) (hs : starEach [e] X.env = (false, eval e X.env) :: starEach [] X.env := by rfl) (hpl : (backTo pos (starEach [] X.env)).any (·.1) = false := by rfl) : ED X Hz ρ (.Call (.Name "list" p) [e] [] pos) (Lst (es.map dEdge)) :=
  ed_ct (call_list_E hc) hm (by decide +kernel) (ap_cons ⟨fun s ⟨l, e, h⟩ => ⟨l, e, h.same s⟩⟩ h ap_nil hs) (fun vs H r Q q => by
    obtain ⟨v, _, rfl, ⟨l, rfl, hS⟩, rfl⟩ := r
    exact ⟨l, es, rfl, hS, hz, fun p vs hp hr => q _ _ (same_upd hp) ⟨p, vs, rfl, upd_same, hr.le (.of (same_upd hp))⟩⟩) hg (by decide) (by decide) hs hpl
end
end K31
namespace K31
open L2 PySem PySem.Spec PyProof.Rows
abbrev edgesP (f : Films) (se : Seen) (fd : Bool) : List Edge := dedE ((missOf f se).map (edgeAt (lastOf se) fd))
theorem edgesIn_of {B : List (List Bool)} {m : Nat} {f : Films} {s : Seen} (fd : Bool) (g : GoodB B) (hf : FilmOk B m f) (hs : SeenOk B s) : EdgesIn (edgesP f s fd) := by
  have hF := fine_of g hf hs
  have sub : ∀ e ∈ edgesP f s fd, ∃ x ∈ missOf f s, e = edgeAt (lastOf s) fd x ∧ SmI x.2.1 ∧ SmI x.2.2 := by
    intro e he
    obtain ⟨x, hx, rfl⟩ := List.mem_map.mp (dedE_mem.mp he)
    refine ⟨x, hx, rfl, ?_⟩
    unfold missOf at hx
    obtain ⟨y, hy, hx⟩ := List.mem_flatMap.mp hx
    obtain ⟨d, hd, rfl⟩ := List.mem_map.mp hx
    exact dots_small g ((hf.lit _ (litAt_mem y.1 hf.h0)).2 d (List.mem_filter.mp hd).1)
  refine ⟨?_, fun e he x hx => ?_, fun e he x hx => ?_⟩
  · have h1 := dedE_len ((missOf f s).map (edgeAt (lastOf s) fd))
    have h2 := miss_len (s := s) hF.f0 hF.lf
    have h3 := hF.s1
    rw [List.length_map] at h1
    show (dedE _).length ≤ 1200
    omega
  · obtain ⟨y, hy, rfl, h1, h2⟩ := sub e he
    unfold edgeAt at hx
    dsimp only at hx
    split at hx
    · cases hx; exact h1
    · cases hx
  · obtain ⟨y, hy, rfl, h1, h2⟩ := sub e he
    unfold edgeAt at hx
    dsimp only at hx
    split at hx
    · cases hx; exact h2
    · cases hx
theorem demands_P {f : Films} {s : Seen} {fd : Bool} : demandsOf f s fd = if strayB f s then none else if (none, none) ∈ edgesP f s fd then none else some (edgesP f s fd) := by
  unfold demandsOf
  by_cases h : strayB f s = true
  · rw [if_pos h, if_pos h]
  · rw [if_neg h, if_neg h]
    dsimp only
    by_cases h2 : (none, none) ∈ (missOf f s).map (edgeAt (lastOf s) fd)
    · rw [if_pos h2, if_pos (dedE_mem.mpr h2)]
    · rw [if_neg h2, if_neg (fun z => h2 (dedE_mem.mp z))]
theorem LivP.but {K : PySem.W.Frag} {se : Seen} {fd : Bool} {H H' : Hp} {v : V} {l : Addr} {o : HO} (h : LivP K se fd H v) (s : SameBut l H H') (hl : H l = some o) (hi : Imm o = false) (h1 : ∀ C dx fs, o ≠ .ins C dx fs) (h2 : ∀ φ, o ≠ .ext φ) (h3 : o ≠ .xd []) : LivP K se fd H' v := by
  obtain ⟨a, dx, da, dl, e, ev, hS, hA, hL⟩ := h
  have le := s.le hl hi
  refine ⟨a, dx, da, dl, e, ev, ?_, hA.le le, hL.le le⟩
  rcases hS with ⟨e1, e2⟩ | ⟨e1, e2⟩
  · exact .inl ⟨s _ _ (fun z => by rw [z, hl] at e1; cases e1; exact h1 _ _ _ rfl) e1, e2⟩
  · exact .inr ⟨s _ _ (fun z => by rw [z, hl] at e1; cases e1; exact h2 _ rfl) e1, s _ _ (fun z => by rw [z, hl] at e2; cases e2; exact h3 rfl) e2⟩
section
variable {P : Program} {w : World}
variable {K : PySem.W.Frag} {mg : Str → Option Value} {base : Heap}
theorem er_edge {X : Cx} {Hz : Hp} {ρ : Rho} {a : Addr} {e1 e2 o : Expr} {apos pos : Pos} {se : Seen} {fd : Bool} {x : Int × Dot} (T : Ty X.K X.mg) (G : GX X 2) (hl : LivP X.K se fd Hz (.ref a)) (ho : ED X Hz ρ o (rf a).p) (h1 : ER X Hz ρ e1 (.int x.1)) (h2 : ER X Hz ρ e2 (dDot x.2))
    (hst : starEach [e1, e2] X.env = (false, eval e1 X.env) :: starEach [e2] X.env := by rfl) (hs2 : starEach [e2] X.env = (false, eval e2 X.env) :: starEach [] X.env := by rfl) (hpl : (backTo pos (starEach [e2] X.env)).any (·.1) = false := by rfl) {pl : Sem Bool}
    (ht : eval (.Call (.Attribute o "edge" apos) [e1, e2] [] pos) X.env = (do
      let ov ← eval o X.env
      standAt apos.atName
      let z ← holding [ov] (getMethod ov "edge" pl)
      callWith pos z.1 z.2 (backTo pos (starEach [e1, e2] X.env)) (backToKw pos (keywordEach [] X.env))) := by rfl) : ER X Hz ρ (.Call (.Attribute o "edge" apos) [e1, e2] [] pos) (dEdge (edgeAt (lastOf se) fd x)) :=
  ed_methSl (PO := fun H v => v = .ref a ∧ LivP X.K se fd H v) (A := fun H vs => RepL H [.int x.1, dDot x.2] vs) T.sL (T.methX (x := "Living") (m := "edge") (by simp [exFa])) (ok_edge (P := X.prog) (w := X.w) (base := X.base) T) G (fun H v ⟨_, a, dx, da, dl, ee, eva, hS, _⟩ => ⟨a, dx, _, eva, hS⟩) ⟨fun s ⟨e, h⟩ => ⟨e, stb_Liv.st s h⟩⟩
    ⟨fun σ H Q E q => ho.run σ H Q E fun v H1 s1 ev => q v H1 s1 ⟨ev, by obtain rfl : v = .ref a := ev; exact stb_Liv.st (E.s0.trans s1) hl⟩⟩ (ad_cons h1 (ad_one h2 hs2) hst)
    (fun v vs H s po pa Q q => ⟨se, fd, x, v, vs, rfl, po.2, pa, fun z H' s' r => q z H' s' r⟩) hst hpl ht
def spEdges (P : Program) (w : World) (K : PySem.W.Frag) : Sp := fun vs H Q _ => ∃ (B : Boards) (f : Films) (se : Seen) (fd : Bool) (v u y : V), vs = [v, u, y] ∧ (FiP K B f).p H v ∧ Rep H (oSeen K B se) u ∧ LivP K se fd H y ∧ GoodB B ∧ FilmOk B 4 f ∧ SeenOk B se ∧ ∀ l H', Same H H' → EdS P w H' l (edgesP f se fd) → Q (.ref l) H'
theorem ok_edges_of (T : Ty K mg) : DefOk P w K mg base 5 "edges_of" (spEdges P w K) := by
  refine T.tx.d_edges_of (fun vs H Q E ⟨B, f, se, fd, v, u, y, ev, _⟩ => by subst ev; rfl) fun X vs H Q E ⟨f, cdv, A, outer, s, e⟩ G ⟨B, fm, se, fd, v, u, y, ev, hv, hu, hy, hB, hf, hs, q⟩ => ?_
  obtain ⟨ay, eva⟩ : ∃ a, y = .ref a := let ⟨a, _, _, _, _, e, _⟩ := hy; ⟨a, e⟩
  subst e ev eva
  have E := env_p (N := N_edges_of) (Ps' := [FiP K B fm, R (oSeen K B se), rf ay]) (vs := [v, u, .ref ay]) (H := H) (.cons hv (.cons hu (.cons rfl .nil)))
  have hF := fine_of hB hf hs
  have hml := miss_len (s := se) hF.f0 hF.lf
  have hs12 := hF.s1
  refine s_setDT 3 keWire G E fun l σ1 H1 hl s1 hD1 E1 => ?_
  have hl1 : H1 l = some (.dT []) := by obtain ⟨us, e, r⟩ := hD1; cases r; exact e
  have hy1 := stb_Liv.st s1 hy
  refine s_forM (ds := (missOf fm se).map dMiss) G .never E1 (ed_call (P := Lst ((missOf fm se).map dMiss)) (A := Ps [(FiP K B fm).p, fun H v => Rep H (oSeen K B se) v]) (ok_missingP T) (G.mono (by decide)) (ap_cons (stb_PP _) (ed_var 0 rfl) (ap_cons stb_R (er_var 1 rfl) ap_nil)) fun vs H2 h Q q => ?_) fun H2 a s2 hLa E2 => ?_
  · obtain ⟨a, _, rfl, pa, b, _, rfl, pb, rfl⟩ := h
    exact ⟨B, fm, se, a, b, rfl, pa, pb, hB, hf.h0, hf.lit, hs, fun z H' s' r => q z H' s' r⟩
  have hl2 := s2 _ _ hl1
  have hal : a ≠ l := by intro z; obtain ⟨us, e, _⟩ := hLa; rw [z, hl2] at e; cases e
  have hy2 := stb_Liv.st s2 hy1
  refine ⟨fun i σ' H' => SameBut l H2 H' ∧ Le H2 H' ∧ EdS P w H' l (dedE (((missOf fm se).take i).map (edgeAt (lastOf se) fd))) ∧ Env [some (FiP K B fm), some (R (oSeen K B se)), some (rf ay), some (rf l), none, none] σ' H', ?_, ?_, ?_, ?_⟩
  · exact ⟨.refl _ _, Le.refl _, ⟨List.nodup_nil, [], .inr ⟨rfl, hl2⟩, ⟨rfl, (fun x hx => by cases hx), (fun x hx => by cases hx)⟩⟩, E2⟩
  · rintro i σ' H' ⟨b, le, _⟩
    refine ⟨le, ?_⟩
    obtain ⟨us, e, _⟩ := hLa
    rw [e]; exact b _ _ hal e
  · rintro i d v' σ' H' hd ⟨b, le, hS, E3⟩ rd
    obtain ⟨x, hx, rfl⟩ := get_map hd
    refine g_tup2 4 5 G rd fun u1 u2 ru1 ru2 => ?_
    have E4 := (E3.set 4 (P := R (.int x.1)) ru1).set 5 (P := R (dDot x.2)) ru2
    have hyc := hy2.but b hl2 rfl (by intro _ _ _ z; cases z) (by intro _ z; cases z) (by intro z; cases z)
    have hlen : (dedE (((missOf fm se).take i).map (edgeAt (lastOf se) fd))).length < 100000 := by
      have h1 := dedE_len (((missOf fm se).take i).map (edgeAt (lastOf se) fd))
      rw [List.length_map, List.length_take] at h1
      omega
    refine s_setE (x := x) G E4 hS hlen (fun Hz => ed_var 3 rfl) (er_edge (a := ay) (x := x) T (G.mono (by decide)) hyc (ed_var 2 rfl) (er_var 4 rfl) (er_var 5 rfl)) (fun Hz => er_t2 (er_var 4 rfl) (er_var 5 rfl)) fun H5 sb5 le5 hS5 E5 => s_nil ?_
    refine ⟨b.trans sb5, le.trans le5, ?_, E5.fg (.k (.k (.k (.k (.d (.d .nil))))))⟩
    have e : dedE (((missOf fm se).take (i + 1)).map (edgeAt (lastOf se) fd)) = addE (dedE (((missOf fm se).take i).map (edgeAt (lastOf se) fd))) (edgeAt (lastOf se) fd x) := by
      rw [take_snoc hx, List.map_append, List.map_singleton, dedE_snoc]; rfl
    rw [e]
    exact hS5
  · rintro σ' H' ⟨b, le, hS, E3⟩
    rw [List.length_map, List.take_length] at hS
    refine s_ret E3 (ed_var 3 rfl) fun v H4 s4 ev => ?_
    obtain rfl : v = .ref l := ev
    exact q l H4 ((b.same (s1.trans s2) hl).trans s4) (hS.same s4)
def AccP (K : PySem.W.Frag) (es : List Edge) : Hp → V → Prop := fun H v => ∃ a dx t s1 s2, v = .ref a ∧ SlX.Slt H a (He.ga K "Account") dx [some (.ref t), s1, s2] ∧ LstAt H t (es.map dEdge)
theorem stb_Acc {K : PySem.W.Frag} {es : List Edge} : Stb (AccP K es) := ⟨fun s ⟨a, dx, t, s1, s2, ev, h1, h2⟩ => ⟨a, dx, t, s1, s2, ev, slt_same h1 s, h2.same s⟩⟩
theorem ok_ainit (T : Ty K mg) : MethOk P w K mg base 6 "Account" "__init__" (fun vs H Q E => ∃ (B : Boards) (f : Films) (se : Seen) (dy : D), spMk (He.ga K "Account") (fun H vs => RepL H [oF K B f, oSeen K B se, dy] vs ∧ GoodB B ∧ FilmOk B 4 f ∧ SeenOk B se ∧ DyOk dy) (AccP K (edgesP f se (dyB dy))) vs H Q E) := by
  refine T.tx.m_Account___init__ (fun vs H Q E ⟨B, f, l, dy, x, dx, vs', H0, ev, _, _, _, _, ⟨r, _⟩, _⟩ => by subst ev; have := r.length; simp at this; simp [← this]) fun X vs H Q E ⟨f, cdv, A, outer, s, e⟩ G ⟨B, fm, se, dy, x, dx, vs', H0, ev, eH, hx, hdx, hne, ⟨r, hB, hf, hs, hdy⟩, q⟩ => ?_
  subst e ev
  have E0 : Env [some (rf x), some (R (oF K B fm)), some (R (oSeen K B se)), some (R dy)] (L2.start N_Account___init__ (.ref x :: vs')) H0 := env_p (N := N_Account___init__) (Ps' := [rf x, R (oF K B fm), R (oSeen K B se), R dy]) (vs := .ref x :: vs') (H := H0) (.cons rfl r.pairR)
  have sH : Same H0 H := by rw [eH]; exact same_new hx hdx
  have hxH : SlX.Slt H x (He.ga K "Account") dx [] := .inl ⟨by rw [eH]; exact upd_same, rfl⟩
  refine s_slot T.sA (T.sl (C := "Account") (f := "own_film") (i := 1) (by simp [exSl])) (E0.same sH) hxH stb_R (fun Hz => ed_var 0 rfl) (er_var (d := oF K B fm) 1 rfl) fun v1 H1 s1 _ => ?_
  have s02 : Same H0 (SlX.slH H1 x (He.ga K "Account") dx (SlX.putS 1 v1 [])) := same_slH (sH.trans s1) hx hdx
  have S2 : Sl2 (SlX.slH H1 x (He.ga K "Account") dx (SlX.putS 1 v1 [])) x (He.ga K "Account") dx [none, some v1] := Sl2.put hne
  generalize SlX.slH H1 x (He.ga K "Account") dx (SlX.putS 1 v1 []) = H2 at s02 S2 ⊢
  refine s_slot (P := fun H v => LivN K se (dyB dy) H2 H v) T.sA (T.sl (C := "Account") (f := "own_living") (i := 2) (by simp [exSl])) (E0.same s02) S2.slt ⟨fun s ⟨a, dx, da, dl, e, ev, n1, n2, h1, h2, h3⟩ => ⟨a, dx, da, dl, e, ev, n1, n2, slt_same h1 s, h2.le (.of s), h3.le (.of s)⟩⟩ (fun Hz => ed_var 0 rfl)
    (.imp (ed_make2 (k := 3) (pre := fun H vs => RepL H [oSeen K B se, .tup [], dy] vs ∧ GoodB B ∧ SeenOk B se ∧ DyOk dy) (A := fun H vs => RepL H [oSeen K B se, .tup [], dy] vs) (T.mkX (x := "Living") (by simp [exFa])) (FnR.imp (ok_linit T) fun vs H Q E h => ⟨B, se, dy, h⟩) (G.mono (by decide)) T.tx.g_Living (ad_cons (er_var 2 rfl) (ad_cons (er_tup ad_nil) (ad_one (er_var 3 rfl)))) fun H vs s h => ⟨h, hB, hs, hdy⟩) fun H v ⟨H3, s3, a, dx, da, dl, e, ev, n1, n2, h⟩ => ⟨a, dx, da, dl, e, ev, s3.free n1, s3.free n2, h⟩) fun v2 H4 s4 ⟨al, dxl, da, dl, el, ev, n1, n2, hSl, hA, hL⟩ => ?_
  subst ev
  have S4 := S2.same s4
  have nx : al ≠ x := fun z => by rw [z, S2.1] at n1; cases n1
  have ndx : al ≠ dx := fun z => by rw [z, S2.2] at n1; cases n1
  have nx' : dxl ≠ x := fun z => by rw [z, S2.1] at n2; cases n2
  have ndx' : dxl ≠ dx := fun z => by rw [z, S2.2] at n2; cases n2
  have le5 : Le H4 (SlX.slH H4 x (He.ga K "Account") dx (SlX.putS 2 (.ref al) [none, some v1])) := le_slH S4.1 S4.2
  have L5 : LivP K se (dyB dy) (SlX.slH H4 x (He.ga K "Account") dx (SlX.putS 2 (.ref al) [none, some v1])) (.ref al) := ⟨al, dxl, da, dl, el, rfl, by
    rcases hSl with ⟨e1, e2⟩ | ⟨e1, e2⟩
    · exact .inl ⟨by rw [SlX.slH_ne nx ndx]; exact e1, e2⟩
    · exact .inr ⟨by rw [SlX.slH_ne nx ndx]; exact e1, by rw [SlX.slH_ne nx' ndx']; exact e2⟩, hA.le le5, hL.le le5⟩
  have s05 : Same H0 (SlX.slH H4 x (He.ga K "Account") dx (SlX.putS 2 (.ref al) [none, some v1])) := same_slH (s02.trans s4) hx hdx
  have S5 : Sl2 (SlX.slH H4 x (He.ga K "Account") dx (SlX.putS 2 (.ref al) [none, some v1])) x (He.ga K "Account") dx [none, some v1, some (.ref al)] := Sl2.put hne
  generalize SlX.slH H4 x (He.ga K "Account") dx (SlX.putS 2 (.ref al) [none, some v1]) = H5 at L5 s05 S5 ⊢
  have hin := edgesIn_of (dyB dy) hB hf hs
  refine s_slot (P := Lst ((edgesP fm se (dyB dy)).map dEdge)) T.sA (T.sl (C := "Account") (f := "own_edges") (i := 0) (by simp [exSl])) (E0.same s05) S5.slt stb_Lst (fun Hz => ed_var 0 rfl) (el_lstE G.calm (by have := hin.len; omega) T.tx.n_list (ed_callS (P := fun H v => ∃ l, v = .ref l ∧ EdS P w H l (edgesP fm se (dyB dy))) (A := Ps [(FiP K B fm).p, fun H v => Rep H (oSeen K B se) v, fun _ v => v = .ref al]) (ok_edges_of T) (G.mono (by decide)) (ap_cons (stb_PP _) (ed_obj (er_var 1 rfl)) (ap_cons stb_R (er_var 2 rfl) (ap_cons stb_eq (ed_slotAt (u := .ref al) T.sA (T.sl (C := "Account") (f := "own_living") (i := 2) (by simp [exSl])) S5.slt rfl (ed_var 0 rfl)) ap_nil))) fun vs H6 s6 h Q q => ?_)) fun v6 H6 s6 ⟨t, us, ev, ht, hr⟩ => ?_
  · obtain ⟨a, _, rfl, pa, b, _, rfl, pb, c, _, rfl, rfl, rfl⟩ := h
    exact ⟨B, fm, se, dyB dy, a, b, _, rfl, pa, pb, stb_Liv.st s6 L5, hB, hf, hs, fun l H' s' hS => q _ H' s' ⟨l, rfl, hS⟩⟩
  · subst ev
    have S6 := S5.same s6
    have tx : t ≠ x := fun z => by rw [z, S6.1] at ht; cases ht
    have tdx : t ≠ dx := fun z => by rw [z, S6.2] at ht; cases ht
    have le7 : Le H6 (SlX.slH H6 x (He.ga K "Account") dx (SlX.putS 0 (.ref t) [none, some v1, some (.ref al)])) := le_slH S6.1 S6.2
    have s07 : Same H0 (SlX.slH H6 x (He.ga K "Account") dx (SlX.putS 0 (.ref t) [none, some v1, some (.ref al)])) := same_slH (s05.trans s6) hx hdx
    have S7 : Sl2 (SlX.slH H6 x (He.ga K "Account") dx (SlX.putS 0 (.ref t) [none, some v1, some (.ref al)])) x (He.ga K "Account") dx [some (.ref t), some v1, some (.ref al)] := Sl2.put hne
    refine s_nil (q _ s07 ⟨x, dx, t, _, _, rfl, S7.slt, us, ?_, hr.le le7⟩)
    rw [SlX.slH_ne tx tdx]; exact ht
theorem ok_afew (T : Ty K mg) : MethOk P w K mg base 24 "Account" "fewest" (fun vs H Q _ => ∃ (es : List Edge) (v : V), vs = [v] ∧ AccP K es H v ∧ EdgesIn es ∧ ∀ z H', Same H H' → Rep H' (fewD es) z → Q z H') := by
  refine T.tx.m_Account_fewest (fun vs H Q E ⟨es, v, ev, _⟩ => by subst ev; rfl) fun X vs H Q E ⟨f, cdv, A, outer, s, e⟩ G ⟨es, v, ev, ⟨a, dx, t, z1, z2, eva, hS, hL⟩, hin, q⟩ => ?_
  subst e ev eva
  have E := env_p (N := N_Account_fewest) (Ps' := [rf a]) (vs := [.ref a]) (H := H) (.cons rfl .nil)
  refine s_ret E (P := fun H v => Rep H (fewD es) v) (ed_callS (A := Ps [fun _ v => v = .ref t]) (ok_fewestP T.tx) (G.mono (by decide)) (ap_cons stb_eq (ed_slotAt (u := .ref t) T.sA (T.sl (C := "Account") (f := "own_edges") (i := 0) (by simp [exSl])) hS rfl (ed_var 0 rfl)) ap_nil) fun vs H1 s1 h Q q => ?_) fun v H' s r => q v H' s r
  obtain ⟨b, _, rfl, rfl, rfl⟩ := h
  exact ⟨t, es, rfl, hL.same s1, hin, fun v H' s' r => q v H' s' r⟩
end
end K31
namespace K31
open L2 PySem PySem.Spec PyProof.Rows
section
variable {X : Cx} {Hz : Hp} {ρ : Rho} {o e a b : Expr} {es : List Expr} {pos p apos : Pos} {k : Nat} {B : Boards} {f : Films}
theorem ed_shr (T : Ty X.K X.mg) (G : GX X 5) {n : Nat} (hn : n < f.length) (h1 : f.length ≤ 12) (ha : ED X Hz ρ a (FiP X.K B f).p) (hb : ER X Hz ρ b (.int n)) : ED X Hz ρ (.BinOp a .RShift b pos) (FiP X.K B (turnBy f n)).p := by
  have M := T.methX (x := "Film") (m := "__rshift__") (by simp [exFa])
  obtain ⟨z1, z⟩ := He.ba T.xshr
  obtain ⟨z2, z⟩ := He.ba z
  obtain ⟨z3, z⟩ := He.ba z
  obtain ⟨z4, z5⟩ := He.ba z
  obtain ⟨fo, z3⟩ := Option.isSome_iff_exists.mp z3
  obtain ⟨ro, z4⟩ := Option.isSome_iff_exists.mp z4
  refine ed_op (op_shrO z1 M.at_ M.fn (He.eqO_ok z2) z3 z4 (of_decide_eq_true z5) (ok_shr (P := X.prog) (w := X.w) (base := X.base) T) G.room) (stb_PP (FiP X.K B f)) ha hb fun x y H px py Q q => ?_
  obtain ⟨aa, dx, fs, rfl, ha⟩ := FiP.ins H x px
  cases py
  exact ⟨aa, dx, fs, n, rfl, rfl, ha, B, f, n, _, _, rfl, px, .int _, hn, h1, fun z H' s' pz => ⟨let ⟨a, e, _⟩ := pz; ⟨a, e⟩, q z H' s' pz⟩⟩
end
theorem enc_miss : Enc 2 dMiss (fun x => .tuple [.int x.1, .tuple [.int x.2.1, .int x.2.2]]) := enc_int.pair enc_dot
def dAccP (x : Acc) : D := .tup [dDot x.1, .any, .int (x.2 : Nat)]
theorem demAcc {f : Films} {s : Seen} {fd : Bool} {t : Int × Int} : ((demandsOf f s fd).map fun es => (t, fewN es)) = if strayB f s then none else if (none, none) ∈ edgesP f s fd then none else some (t, fewN (edgesP f s fd)) := by
  rw [demands_P]
  by_cases h : strayB f s = true
  · rw [if_pos h, if_pos h]; rfl
  · rw [if_neg h, if_neg h]
    by_cases h2 : (none, none) ∈ edgesP f s fd
    · rw [if_pos h2, if_pos h2]; rfl
    · rw [if_neg h2, if_neg h2]; rfl
theorem truth_at {fs : List Films} {i : Nat} : ∀ {x : (Int × Int) × Films}, x ∈ truthsFrom i fs → ∃ (n b : Nat) (g : Films), x = (((n : Int), (b : Int)), turnBy g b) ∧ i ≤ n ∧ fs[n - i]? = some g ∧ b < g.length := by
  induction fs generalizing i with
  | nil => intro x hx; cases hx
  | cons f fs ih =>
    intro x hx
    rcases List.mem_append.mp hx with h | h
    · obtain ⟨b, hb, rfl⟩ := List.mem_map.mp h
      exact ⟨i, b, f, rfl, Nat.le_refl _, by rw [Nat.sub_self]; rfl, List.mem_range.mp hb⟩
    · obtain ⟨n, b, g, e, h1, h2, h3⟩ := ih h
      refine ⟨n, b, g, e, by omega, ?_, h3⟩
      rw [show n - i = (n - (i + 1)) + 1 by omega]
      exact h2
def spAccounts (K : PySem.W.Frag) : Sp := fun vs H Q _ => ∃ (B : Boards) (fs : List Films) (se : Seen) (dy : D), RepL H [oFilms K B fs, oSeen K B se, dy] vs ∧ GoodB B ∧ FilmsOk B fs ∧ SeenOk B se ∧ DyOk dy ∧ ∀ v H', Same H H' → Lst ((accL fs se (dyB dy)).map dAccP) H' v → Q v H'
section
variable {P : Program} {w : World}
variable {K : PySem.W.Frag} {mg : Str → Option Value} {base : Heap}
theorem ok_accounts (T : Ty K mg) : DefOk P w K mg base 25 "accounts" (spAccounts K) := by
  refine T.tx.d_accounts (fun vs H Q E ⟨B, fs, se, dy, r, _⟩ => by have := r.length; simpa using this.symm) fun X vs H Q E ⟨f, cdv, A, outer, s, e⟩ G ⟨B, fs, se, dy, r, hB, hfs, hse, hdy, q⟩ => ?_
  subst e
  have E := env_r (N := N_accounts) r
  have h4 : ∀ f ∈ fs, f.length ≤ 4 := fun f hf => (hfs.ok f hf).h1
  have h3 := hfs.h1
  refine s_setD 3 G E ad_nil fun lo σ1 H1 hlo s1 hLo E1 => ?_
  refine s_forM (ds := (truthsOf fs).map fun x => dDot x.1) G .never E1 (ed_call (P := Lst ((truthsOf fs).map fun x => dDot x.1)) (A := fun H vs => RepL H [oFilms K B fs] vs) (ok_truths_of T) (G.mono (by decide)) (ad_one (er_var 0 rfl)) fun vs H2 h Q q => ?_) fun H2 a s2 hLa E2 => ?_
  · obtain ⟨v, rfl, rv⟩ := h.one
    exact ⟨B, fs, v, rfl, rv, hfs, fun v H' s' r => q v H' s' r⟩
  have htl : (truthsOf fs).length ≤ 12 := by
    have h2 := truthsFrom_len fs 0 4 h4
    unfold truthsOf; omega
  have hne : truthsOf fs ≠ [] := by
    obtain ⟨g, fs', rfl⟩ : ∃ g fs', fs = g :: fs' := by
      cases fs with
      | nil => exact absurd hfs.h0 (by decide)
      | cons a b => exact ⟨_, _, rfl⟩
    have := (hfs.ok g List.mem_cons_self).h0
    unfold truthsOf truthsFrom
    intro h
    have h2 := List.append_eq_nil_iff.mp h
    rw [List.map_eq_nil_iff, List.range_eq_nil] at h2
    omega
  have halo : a ≠ lo := by
    intro z
    subst z
    obtain ⟨us, e, r⟩ := hLa
    obtain ⟨us', e', r'⟩ := hLo.same s2
    rw [e] at e'
    cases e'
    cases r'
    have := r.length
    rw [List.length_map, List.length_nil, List.length_eq_zero_iff] at this
    exact hne this
  let acc : List ((Int × Int) × Films) → List Acc := fun l => l.filterMap fun x => (demandsOf x.2 se (dyB dy)).map fun es => (x.1, fewN es)
  refine ⟨fun i σ' H' => SameBut lo H2 H' ∧ Le H2 H' ∧ LstAt H' lo ((acc ((truthsOf fs).take i)).map dAccP) ∧ Env [some (R (oFilms K B fs)), some (R (oSeen K B se)), some (R dy), some (rf lo), none, none, none, none, none] σ' H', ?_, ?_, ?_, ?_⟩
  · exact ⟨.refl _ _, Le.refl _, hLo.same s2, E2⟩
  · rintro i σ' H' ⟨b, le, _⟩
    refine ⟨le, ?_⟩
    obtain ⟨us, e, _⟩ := hLa
    rw [e]; exact b _ _ halo e
  · rintro i d v' σ' H' hd ⟨bb, le, hL, E3⟩ rd
    obtain ⟨x, hx, rfl⟩ := get_map hd
    obtain ⟨n, b, g, rfl, _, hg, hb⟩ := truth_at (List.mem_of_getElem? hx)
    rw [Nat.sub_zero] at hg
    have hgm := List.mem_of_getElem? hg
    have hgf := hfs.ok g hgm
    have hgt : FilmOk B 4 (turnBy g b) := hgf.turn
    have hg4 := h4 g hgm
    refine g_tup2 (d := .int (n : Nat)) (d' := .int (b : Nat)) 4 5 G rd fun u1 u2 ru1 ru2 => ?_
    have E4 := (E3.set 4 (P := R (.int (n : Nat))) ru1).set 5 (P := R (.int (b : Nat))) ru2
    have hsnoc : acc ((truthsOf fs).take (i + 1)) = acc ((truthsOf fs).take i) ++ (((demandsOf (turnBy g b) se (dyB dy)).map fun es => ((((n : Int), (b : Int)) : Int × Int), fewN es)).toList) := by
      show List.filterMap _ _ = List.filterMap _ _ ++ _
      rw [take_snoc hx, List.filterMap_append]; rfl
    rw [demAcc] at hsnoc
    have hacc : (acc ((truthsOf fs).take i)).length ≤ 12 := by
      have h1 := List.length_filterMap_le (fun x : (Int × Int) × Films => (demandsOf x.2 se (dyB dy)).map fun es => (x.1, fewN es)) ((truthsOf fs).take i)
      rw [List.length_take] at h1
      show (List.filterMap _ _).length ≤ 12
      omega
    refine s_set 6 (d := oF K B (turnBy g b)) G E4 (er_obj (ed_shr (B := B) (f := g) (n := b) T (G.mono (by decide)) hb (by omega) (ed_obj (er_ixt (d := oF K B g) (er_var (d := oFilms K B fs) 0 rfl) (er_var 4 rfl) (atI_nat (by rw [List.getElem?_map, hg]; rfl)))) (er_var 5 rfl))) fun σ5 H5 s5 E5 => ?_
    refine s_if (k := decide (strayL (turnBy g b) se = [])) E5 (td_eqEL (m := []) enc_miss (by decide) G (ed_call (P := Lst ((strayL (turnBy g b) se).map dMiss)) (A := fun H vs => RepL H [oF K B (turnBy g b), oSeen K B se] vs) (ok_strays T) (G.mono (by decide)) (ad_cons (er_var 6 rfl) (ad_one (er_var 1 rfl))) fun vs H6 h Q q => ?_) (ed_lst ad_nil)) (fun hk H6 s6 E6 => ?_) fun hk H6 s6 E6 => ?_
    · obtain ⟨v, u, rfl, rv, ru⟩ := h.two
      cases rv with
      | obj pv => exact ⟨B, turnBy g b, se, v, u, rfl, pv, ru, hB, hgt.h0, hse, fun z H' s' r => q z H' s' r⟩
    · rw [decide_eq_true_eq] at hk
      have hst := (strayL_nil _ _).mp hk
      rw [hst, if_neg (by decide)] at hsnoc
      have hin := edgesIn_of (dyB dy) hB hgt hse
      refine s_asg 7 (P := AccP K (edgesP (turnBy g b) se (dyB dy))) G E6 (ed_make (k := 6) (pre := fun H vs => RepL H [oF K B (turnBy g b), oSeen K B se, dy] vs ∧ GoodB B ∧ FilmOk B 4 (turnBy g b) ∧ SeenOk B se ∧ DyOk dy) (A := fun H vs => RepL H [oF K B (turnBy g b), oSeen K B se, dy] vs) (T.mkX (x := "Account") (by simp [exFa])) (FnR.imp (ok_ainit T) fun vs H Q E h => ⟨B, turnBy g b, se, dy, h⟩) (G.mono (by decide)) T.tx.g_Account (ad_cons (er_var 6 rfl) (ad_cons (er_var 1 rfl) (ad_one (er_var 2 rfl)))) fun H vs s h => ⟨h, hB, hgt, hse, hdy⟩) fun v7 H7 s7 hA7 E7 => ?_
      obtain ⟨ac, ev7⟩ : ∃ a, v7 = .ref a := let ⟨a, _, _, _, _, e, _⟩ := hA7; ⟨a, e⟩
      subst ev7
      have E7b := E7.set 7 (P := rf ac) (v := .ref ac) rfl
      refine s_set 8 (d := fewD (edgesP (turnBy g b) se (dyB dy))) G E7b (ed_methSl0 (k := 24) (PO := fun H v => v = .ref ac ∧ AccP K (edgesP (turnBy g b) se (dyB dy)) H v) T.sA (T.methX (x := "Account") (m := "fewest") (by simp [exFa])) (ok_afew T) (G.mono (by decide)) (fun H v ⟨_, a, dx, t, z1, z2, eva, hS, _⟩ => ⟨a, dx, _, eva, hS⟩) ⟨fun σ H Q E q => (ed_var (P := rf ac) 7 rfl).run σ H Q E fun v H1 s1 ev => q v H1 s1 ⟨ev, by obtain rfl : v = .ref ac := ev; exact stb_Acc.st (E.s0.trans s1) hA7⟩⟩ fun v H s po Q q => ⟨_, v, rfl, po.2, hin, fun z H' s' r => q z H' s' r⟩) fun σ8 H8 s8 E8 => ?_
      have hany : (fewD (edgesP (turnBy g b) se (dyB dy))).isAny = false := by unfold fewD; split <;> rfl
      refine s_if E8 (td_notN hany (er_var 8 rfl)) (fun hk2 H9 s9 E9 => ?_) fun hk2 H9 s9 E9 => s_nil (s_nil (s_nil ?_))
      · have hno : (none, none) ∉ edgesP (turnBy g b) se (dyB dy) := fun z => by unfold fewD at hk2; rw [if_pos z] at hk2; cases hk2
        rw [if_neg hno] at hsnoc
        have s59 := (s5.trans s6).trans (s7.trans (s8.trans s9))
        refine s_append (d := dAccP ((((n : Int), (b : Int)) : Int × Int), fewN (edgesP (turnBy g b) se (dyB dy)))) E9 (hL.same s59) (ed_var 3 rfl) (er_t3 (er_t2 (er_var (d := .int (n : Nat)) 4 rfl) (er_var (d := .int (b : Nat)) 5 rfl)) (ED.imp (ed_var (P := rf ac) 7 rfl) fun H v _ => .any v) (.is (er_var (d := fewD (edgesP (turnBy g b) se (dyB dy))) 8 rfl) (by unfold fewD; rw [if_neg hno]))) (by rw [List.length_map]; omega) fun H10 s10 hL10 E10 => s_nil (s_nil (s_nil ?_))
        refine ⟨(bb.trans (.of s59)).trans s10, (le.trans (.of s59)).trans ((hL.same s59).le s10), ?_, E10.fg (.k (.k (.k (.k (.d (.d (.d (.d (.d .nil)))))))))⟩
        rw [hsnoc]
        show LstAt H10 lo ((acc ((truthsOf fs).take i) ++ [_]).map dAccP)
        rw [List.map_append]; exact hL10
      · have hyes : (none, none) ∈ edgesP (turnBy g b) se (dyB dy) := by
          by_cases z : (none, none) ∈ edgesP (turnBy g b) se (dyB dy)
          · exact z
          · unfold fewD at hk2; rw [if_neg z] at hk2; cases hk2
        rw [if_pos hyes] at hsnoc
        have s59 := (s5.trans s6).trans (s7.trans (s8.trans s9))
        refine ⟨bb.trans (.of s59), le.trans (.of s59), ?_, E9.fg (.k (.k (.k (.k (.d (.d (.d (.d (.d .nil)))))))))⟩
        rw [hsnoc]
        show LstAt H9 lo ((acc ((truthsOf fs).take i) ++ []).map dAccP)
        rw [List.append_nil]; exact hL.same s59
    · rw [decide_eq_false_iff_not] at hk
      have hst : strayB (turnBy g b) se = true := by
        cases h : strayB (turnBy g b) se with
        | true => rfl
        | false => exact absurd ((strayL_nil _ _).mpr h) hk
      rw [hst, if_pos rfl] at hsnoc
      have s56 := s5.trans s6
      refine s_nil (s_nil ⟨bb.trans (.of s56), le.trans (.of s56), ?_, E6.fg (.k (.k (.k (.k (.d (.d (.d (.d (.d .nil)))))))))⟩)
      rw [hsnoc]
      show LstAt H6 lo ((acc ((truthsOf fs).take i) ++ []).map dAccP)
      rw [List.append_nil]; exact hL.same s56
  · rintro σ' H' ⟨bb, le, hL, E3⟩
    rw [List.length_map, List.take_length] at hL
    refine s_ret E3 (ed_var 3 rfl) fun v H4 s4 ev => ?_
    obtain rfl : v = .ref lo := ev
    exact q _ H4 ((bb.same (s1.trans s2) hlo).trans s4) (hL.same s4).lst
end
end K31
namespace K31
open L2 PySem PySem.Spec PyProof.Rows
/-! ### targets of three -/
theorem wipe_eq {σ τ : L2.St} {vs : List Nat} (hl : τ.length = σ.length) (h : ∀ m, m ∉ vs → τ[m]? = (wipe σ vs)[m]?) : wipe τ vs = wipe σ vs := by
  apply List.ext_getElem?
  intro m
  rw [wipe_at, wipe_at]
  by_cases hm : m ∈ vs
  · rw [if_pos hm, if_pos hm]
    by_cases hl2 : m < σ.length
    · rw [List.getElem?_eq_getElem (by omega), List.getElem?_eq_getElem hl2]; rfl
    · rw [List.getElem?_eq_none (by omega), List.getElem?_eq_none (by omega)]
  · rw [if_neg hm, if_neg hm, h m hm, wipe_at, if_neg hm]
section
variable {Y : Cx} {ρ : Rho} {pos : Pos} {k : Nat}
theorem tg_tup3V (i j l : Nat) {x y z : Str} {d d' d'' : D} {px py pz : Pos} {n : Nat} {vs : List Nat} (hvi : i ∈ vs) (hvj : j ∈ vs) (hvl : l ∈ vs) (nd : Y.N.Nodup) (hc : Y.calm = true) (hi : Y.N[i]? = some x := by rfl) (hx : Loc Y.env.scope x := by first | exact .inl rfl | exact .inr rfl) (hf : Y.fn x = true ∨ Y.env.scope.names.lookup x = some .local := by first | exact .inr rfl | exact .inl rfl)
    (hj : Y.N[j]? = some y := by rfl) (hy : Loc Y.env.scope y := by first | exact .inl rfl | exact .inr rfl) (hg : Y.fn y = true ∨ Y.env.scope.names.lookup y = some .local := by first | exact .inr rfl | exact .inl rfl)
    (hl : Y.N[l]? = some z := by rfl) (hz : Loc Y.env.scope z := by first | exact .inl rfl | exact .inr rfl) (hh : Y.fn z = true ∨ Y.env.scope.names.lookup z = some .local := by first | exact .inr rfl | exact .inl rfl) :
    TgD Y ρ (((ρ.set i (some (R d))).set j (some (R d'))).set l (some (R d''))) (.Tuple [.Name x px, .Name y py, .Name z pz] n pos) vs (.tup [d, d', d'']) := by
  refine ⟨fun σ H v Q E r q pins s u I ru => (pg_tup hc (pgs_cons (pg_name nd hi hx hf) (pgs_cons (pg_name nd hj hy hg) (pgs_cons (pg_name nd hl hz hh) pgs_nil)))).run pins s _ H v u Q I ru ?_⟩
  cases r with
  | tup h rl =>
    cases rl with
    | cons r1 t =>
      cases t with
      | cons r2 t2 =>
        cases t2 with
        | cons r3 t3 =>
          cases t3
          refine ⟨_, _, rfl, SqT.of h, rfl, _, _, rfl, _, _, rfl, _, _, rfl, rfl, q _ (((E.set i (P := R d) r1).set j (P := R d') r2).set l (P := R d'') r3) (wipe_eq (by simp [wipe_length]) fun m hm => ?_)⟩
          rw [List.getElem?_set_ne (fun e : l = m => hm (e ▸ hvl)), List.getElem?_set_ne (fun e : j = m => hm (e ▸ hvj)), List.getElem?_set_ne (fun e : i = m => hm (e ▸ hvi))]
end
/-! ### min(.., default=None) -/
def minI : List Int → Int
  | [] => 0
  | n :: ns => ns.foldl min n
def minO : List Int → D
  | [] => .non
  | n :: ns => .int (ns.foldl min n)
def minV : List Int → V
  | [] => .non
  | n :: ns => .int (ns.foldl min n)
theorem min_fold : ∀ (ns : List Int) (n : Int), (ns.foldl min n = n ∨ ns.foldl min n ∈ ns) ∧ ns.foldl min n ≤ n ∧ ∀ y ∈ ns, ns.foldl min n ≤ y
  | [], n => ⟨.inl rfl, Int.le_refl _, fun _ h => by cases h⟩
  | k :: ns, n => by
    obtain ⟨h1, h2, h3⟩ := min_fold ns (min n k)
    rw [List.foldl_cons]
    refine ⟨?_, by omega, fun y hy => ?_⟩
    · rcases h1 with h | h
      · by_cases hk : n ≤ k
        · left; rw [h]; omega
        · right; rw [h, show min n k = k by omega]; exact List.mem_cons_self
      · exact .inr (List.mem_cons_of_mem _ h)
    · rcases List.mem_cons.mp hy with h | h
      · rw [h]; omega
      · exact h3 y h
theorem min_uniq {ns : List Int} {m : Int} (h0 : 0 < ns.length) (h1 : m ∈ ns) (h2 : ∀ y, y ∈ ns → m ≤ y) : m = minI ns := by
  cases ns with
  | nil => cases h0
  | cons n ns =>
    obtain ⟨z1, z2, z3⟩ := min_fold ns n
    show m = ns.foldl min n
    have a1 : m ≤ ns.foldl min n := by
      rcases z1 with h | h
      · rw [h]; exact h2 n List.mem_cons_self
      · exact h2 _ (List.mem_cons_of_mem _ h)
    have a2 : ns.foldl min n ≤ m := by
      rcases List.mem_cons.mp h1 with h | h
      · rw [h]; exact z2
      · exact z3 m h
    omega
theorem reads_ints {h : Heap} : ∀ {ns : List Int} {its : List Value}, Vals (ns.map V.int) its → ReadsAll h its (ns.map PyData.int) []
  | [], _, r => by cases r; exact .nil
  | n :: ns, _, r => by
    cases r with
    | cons r1 r2 =>
      obtain ⟨t, rfl⟩ := r1
      exact .cons (as := []) (bs := []) (.int n t) (reads_ints r2)
theorem depth_ints : ∀ ns : List Int, PyData.depthAll (ns.map PyData.int) = 0
  | [] => rfl
  | n :: ns => by show max 0 (PyData.depthAll (ns.map PyData.int)) = 0; rw [depth_ints ns]; rfl
section
variable {X : Cx} {Hz : Hp} {ρ : Rho} {e e2 : Expr} {pos p kpos : Pos}
def rMinD : List V → List V → Hp → VK → Prop := fun xs zs H Q => ∃ (a : Addr) (ns : List Int), xs = [.ref a] ∧ zs = [.non] ∧ H a = some (.lst (ns.map V.int)) ∧ Q (minV ns) H
theorem call_minD (hc : X.calm = true) (hu : X.A.units + 1 < cLine) : CallRK X (.builtin "min") ["default"] rMinD := by
  rintro pins s σ H xs zs us ws Q I r rz ⟨a, ns, rfl, rfl, ha, q⟩
  obtain ⟨z1, rfl, rx⟩ := vals1 r
  obtain ⟨z2, rfl, ry⟩ := vals1 rz
  obtain rfl : z1 = .ref a := rx
  obtain rfl : z2 = .none := ry
  obtain ⟨z, its, k, rv, ho⟩ := I.hok a _ ha
  refine PySem.W.min_list_default (vs := its.toArray) (xs := ns.map PyData.int) (as := []) (I.ok.hd hc) ⟨_, ho, rfl, _, rfl⟩ (by simpa using reads_ints rv) ⟨fun x hx y hy => ?_, fun x hx => ?_⟩ (by rw [depth_ints]; exact hu) (fun h h' tk kp => ?_) fun y ys i v h' tk bs e hv hr kp => ?_
  · obtain ⟨i, _, rfl⟩ := List.mem_map.mp hx
    obtain ⟨j, _, rfl⟩ := List.mem_map.mp hy
    rfl
  · obtain ⟨i, _, rfl⟩ := List.mem_map.mp hx
    intro z; cases z
  · obtain rfl : ns = [] := by simpa using h
    exact ⟨.non, H, I.kept kp, rfl, q⟩
  · cases ns with
    | nil => cases e
    | cons n ns =>
      rw [List.map_cons] at e
      injection e with e1 e2
      subst e1 e2
      rw [PySem.W.minD_ints] at hr
      cases hr
      exact ⟨.int _, H, I.kept kp, ⟨_, rfl⟩, q⟩
theorem er_minD {ns : List Int} (hc : X.calm = true) (hu : X.A.units + 1 < cLine) (hm : X.mg "min" = none) (h : ED X Hz ρ e (Lst (ns.map D.int))) (h2 : ER X Hz ρ e2 .non) (hg : Gl X "min" := by rfl) (hs : starEach [e] X.env = (false, eval e X.env) :: starEach [] X.env := by rfl)
    (he : backTo pos (starEach [e] X.env) = (false, eval e X.env) :: backTo pos (starEach [] X.env) := by rfl) (hpl : (backTo pos (starEach [e] X.env)).any (·.1) = false := by rfl)
    (hall : (backToKw pos (keywordEach [⟨some "default", e2, kpos⟩] X.env)).all (·.1.isSome) = true := by rfl) (hnone : (backToKw pos (keywordEach [⟨some "default", e2, kpos⟩] X.env)).any (·.1.isNone) = false := by rfl) (hks : (backToKw pos (keywordEach [⟨some "default", e2, kpos⟩] X.env)).filterMap (·.1) = [("default" : Str)] := by rfl) :
    ER X Hz ρ (.Call (.Name "min" p) [e] [⟨some "default", e2, kpos⟩] pos) (minO ns) := by
  refine .by (pe_callBK (call_minD hc hu) hg hm (by decide +kernel) (pa_cons pe_W pa_nil hs) (pk_cons pe_W pk_nil) (by decide) (by decide) he hpl hall hnone hks) fun σ H Q E q => ?_
  refine h.run σ H _ E fun v H1 s1 ⟨l, us, ev, hl, rl⟩ => ?_
  refine h2.run σ H1 _ (E.same s1) fun u H2 s2 r2 => ?_
  cases r2
  have := rl.ints
  subst this
  refine ⟨l, ns, by rw [ev], rfl, s2 _ _ hl, q _ H2 (s1.trans s2) ?_⟩
  cases ns with
  | nil => exact .non
  | cons n ns => exact .int _
theorem er_minL {ns : List Int} (hc : X.calm = true) (h0 : 0 < ns.length) (hm : X.mg "min" = none) (h : ED X Hz ρ e (Lst (ns.map D.int))) (hg : Gl X "min" := by rfl) (hs : starEach [e] X.env = (false, eval e X.env) :: starEach [] X.env := by rfl) (hpl : (backTo pos (starEach [] X.env)).any (·.1) = false := by rfl) : ER X Hz ρ (.Call (.Name "min" p) [e] [] pos) (.int (minI ns)) :=
  ed_cb (cr_min hc) hm (by decide +kernel) (al_one h hs) (fun vs H r Q q => by
    obtain ⟨v, _, rfl, ⟨l, us, rfl, hl, rl⟩, rfl⟩ := r
    have := rl.ints
    subst this
    exact ⟨l, ns, rfl, SqL.of hl, h0, fun m h1 h2 => by rw [min_uniq h0 h1 h2]; exact q _ H (Same.refl H) (.int _)⟩) hg (by decide) (by decide) hs hpl
end
/-! ### defs with a keyword -/
def DefK (P : Program) (w : World) (K : PySem.W.Frag) (mg : Str → Option Value) (base : Heap) (k : Nat) (x : Str) (n : Nat) (ks : List Str) (sp : Sp) : Prop :=
  ∃ f fd ps g gV, mg x = some (.ref f) ∧ PySem.W.keepIn K (.ref f) = true ∧ FnOk P w K mg base CX0 k f fd ps sp ∧ KBn K fd ps n ks g gV ∧ ∀ vs zs, gV vs zs = vs ++ zs
theorem ed_callK {X : Cx} {Hz : Hp} {ρ : Rho} {e e2 : Expr} {es : List Expr} {p pos kpos : Pos} {k n : Nat} {x kw : Str} {sp : Sp} {A : Hp → List V → Prop} {d2 : D} {P : Hp → V → Prop} (F : DefK X.prog X.w X.K X.mg X.base k x n [kw] sp) (G : GX X k) (ha : AD X Hz ρ (e :: es) A) (sA : Stb A) (hA : ∀ H vs, A H vs → vs.length = n) (h2 : ER X Hz ρ e2 d2)
    (h : ∀ vs v H, Same Hz H → A H vs → Rep H d2 v → ∀ Q : VK, (∀ z H', Same H H' → P H' z → Q z H') → sp (vs ++ [v]) H Q E0) (hg : Gl X x := by rfl) (hall : (backToKw pos (keywordEach [⟨some kw, e2, kpos⟩] X.env)).all (·.1.isSome) = true := by rfl) (hks : (backToKw pos (keywordEach [⟨some kw, e2, kpos⟩] X.env)).filterMap (·.1) = [kw] := by rfl)
    (hdb : (x == ("__debug__" : Str)) = false := by decide) (he : starEach (e :: es) X.env = (false, eval e X.env) :: starEach es X.env := by rfl) (hpl : ((backTo pos (starEach (e :: es) X.env)).any (·.1) || (backToKw pos (keywordEach [⟨some kw, e2, kpos⟩] X.env)).any (·.1.isNone)) = false := by rfl) : ED X Hz ρ (.Call (.Name x p) (e :: es) [⟨some kw, e2, kpos⟩] pos) P := by
  obtain ⟨f, fd, ps, g, gV, hm, hk, F, hb, hgV⟩ := F
  refine .by (pe_callN (E := E0) F G.room hg hm hk hb pass0 pa_W (pk_cons pe_W pk_nil) hall hks hdb he hpl) fun σ H Q E q => ?_
  refine ha.run σ H _ E fun vs H1 s1 p1 => ?_
  refine h2.run σ H1 _ (E.same s1) fun v H2 s2 r2 => ?_
  refine ⟨hA _ _ p1, rfl, ?_⟩
  rw [hgV]
  exact h vs v H2 (E.s0.trans (s1.trans s2)) (sA.st s2 p1) r2 Q fun z H' s' pz => q z H' ((s1.trans s2).trans s') pz
end K31
namespace K31
open L2 PySem PySem.Spec PyProof.Rows
noncomputable def toldL (fs : List Films) (se : Seen) (fd : Bool) (k : Int) : List Acc := (accL fs se fd).filter fun x => decide (((x.2 : Nat) : Int) ≤ k)
noncomputable def leastD (fs : List Films) (se : Seen) (fd : Bool) : D := minO ((accL fs se fd).map fun x => ((x.2 : Nat) : Int))
/-- what both ask of their arguments -/
structure PreT (B : Boards) (fs : List Films) (se : Seen) (dy : D) : Prop where
  b : GoodB B
  f : FilmsOk B fs
  s : SeenOk B se
  d : DyOk dy
def spTold (K : PySem.W.Frag) : Sp := fun vs H Q _ => ∃ (B : Boards) (fs : List Films) (se : Seen) (k : Int) (dy : D), RepL H [oFilms K B fs, oSeen K B se, .int k, dy] vs ∧ PreT B fs se dy ∧ 0 ≤ k ∧ k ≤ 20 ∧ ∀ v H', Same H H' → Rep H' (.tup ((toldL fs se (dyB dy) k).map dAcc)) v → Q v H'
def spLeast (K : PySem.W.Frag) : Sp := fun vs H Q _ => ∃ (B : Boards) (fs : List Films) (se : Seen) (dy : D), RepL H [oFilms K B fs, oSeen K B se, dy] vs ∧ PreT B fs se dy ∧ ∀ v H', Same H H' → Rep H' (leastD fs se (dyB dy)) v → Q v H'
section
variable {P : Program} {w : World}
variable {K : PySem.W.Frag} {mg : Str → Option Value} {base : Heap}
theorem ok_told (T : Ty K mg) : DefK P w K mg base 26 "told" 3 ["dying"] (spTold K) := by
  obtain ⟨fd, F⟩ := T.tx.says.def_ 25 (d := d_told) rfl
  have hF : FnOk P w K mg base CX0 26 (He.ga K "told") fd ["films", "seen", "k", "dying"] (spTold K) := by
    refine F.ok sc_told (fun vs H Q E ⟨B, fs, se, k, dy, r, _⟩ => by have := r.length; simpa using this.symm) fun cdv A outer s H vs Q E hr h => ⟨_, PSs.nox pss_W, ?_⟩
    obtain ⟨B, fs, se, k, dy, r, pre, k0, k1, q⟩ := h
    have G : GX (cxOf CX0 P w K mg base N_told "told" (defScope s_told) (He.ga K "told") cdv A outer s H E).nox 25 := ⟨rfl, sc_told.nd, hr⟩
    have E0 := env_r (N := N_told) r
    have h3 := pre.f.h1
    have h4 : ∀ f ∈ fs, f.length ≤ 4 := fun f hf => (pre.f.ok f hf).h1
    obtain ⟨l0, f', rfl⟩ : ∃ l0 f', fs = l0 :: f' := by
      have := pre.f.h0
      cases fs with
      | nil => cases this
      | cons a b => exact ⟨_, _, rfl⟩
    refine s_do (P := fun _ _ => True) E0 (ed_call (A := fun H vs => RepL H [oFilms K B (l0 :: f')] vs) (ok_check_films T) (G.mono (by decide)) (ad_one (er_var 0 rfl)) fun vs H1 h Q q => ?_) fun v1 H1 s1 _ E1 => ?_
    · obtain ⟨v, rfl, rv⟩ := h.one
      exact ⟨B, l0 :: f', v, rfl, rv, pre.f, fun H' s' => q _ H' s' trivial⟩
    refine s_do (P := fun _ _ => True) E1 (ed_call (A := Ps [(BoP K B).p, fun H v => Rep H (oSeen K B se) v]) (ok_check_seen T) (G.mono (by decide)) (ap_cons (stb_PP _) (ed_fboard (B := B) (f := l0) T (ed_obj (er_ixt (er_var (d := oFilms K B (l0 :: f')) 0 rfl) er_int (atI_nat (j := 0) rfl)))) (ap_cons stb_R (er_var 1 rfl) ap_nil)) fun vs H2 h Q q => ?_) fun v2 H2 s2 _ E2 => ?_
    · obtain ⟨a, _, rfl, pa, b, _, rfl, pb, rfl⟩ := h
      exact ⟨B, se, a, b, rfl, pa, pb, pre.s, fun H' s' => q _ H' s' trivial⟩
    refine s_do (P := fun _ _ => True) E2 (ed_call (A := fun H vs => RepL H [.int k, .int 20] vs) (ok_check_k T) (G.mono (by decide)) (ad_cons (er_var 2 rfl) (ad_one (er_gint (by rfl) T.tx.c_MOST_DEAD))) fun vs H3 h Q q => ?_) fun v3 H3 s3 _ E3 => ?_
    · exact ⟨k, 20, h, k0, k1, fun H' s' => q _ H' s' trivial⟩
    have hlen := accL_len (l0 :: f') se (dyB dy) h3 h4
    refine s_ret E3 (P := fun H v => Rep H (.tup ((toldL (l0 :: f') se (dyB dy) k).map dAcc)) v) (er_tupL T.tx.n_tuple (ed_lc (L := accL (l0 :: f') se (dyB dy)) (enc := dAccP) (fun x => decide (((x.2 : Nat) : Int) ≤ k)) dAcc G [("truth", 4), ("account", 5), ("least", 6)]
      (src_lst (ed_call (P := Lst ((accL (l0 :: f') se (dyB dy)).map dAccP)) (A := fun H vs => RepL H [oFilms K B (l0 :: f'), oSeen K B se, dy] vs) (ok_accounts T) (G.mono (Nat.le_refl _)) (ad_cons (er_var 0 rfl) (ad_cons (er_var 1 rfl) (ad_one (er_var 3 rfl)))) fun vs H4 h Q q => ⟨B, l0 :: f', se, dy, h, pre.b, pre.f, pre.s, pre.d, fun v H' s' r => q v H' s' r⟩)) (blkOk_by (N := N_told) (sc := defScope s_told) (by decide +kernel)) (by omega)
      (fun s H0 C cl fp x hx => tg_tup3V 4 5 6 (by decide) (by decide) (by decide) G.nd G.calm)
      (fun s H0 C cl fp x hx => ts_one (td_le (er_var 6 rfl) (er_var 2 rfl)))
      fun s H0 C cl fp x hx _ => er_tup (ad_star (er_var (d := dDot x.1) 4 rfl) (ad_one (er_var 6 rfl))) (by show 3 ≤ 1000; decide))) fun v H' s r => q v H' (s1.trans (s2.trans (s3.trans s))) r
  refine ⟨_, fd, _, fun us ws => us ++ ws, fun vs zs => vs ++ zs, T.tx.g_told, F.kp, hF, ⟨?_, fun r1 r2 => r1.append r2⟩, fun _ _ => rfl⟩
  intro s us ws X l1 l2
  obtain ⟨oc, od, dV, kV, doc, pm, an, cdv, ct, osl, rfl, lk, hcd, hD, hK⟩ := F.ex; rcases hD with ⟨_, rfl⟩ | ⟨e, _⟩
  · rcases hK with e | ⟨D, rfl, _⟩
    · cases e
    · match us, l1, ws, l2 with
      | [a, b, c], _, [d], _ => exact .of_eq rfl
  · exact absurd rfl e
theorem ok_least (T : Ty K mg) : DefK P w K mg base 26 "least_dead" 2 ["dying"] (spLeast K) := by
  obtain ⟨fd, F⟩ := T.tx.says.def_ 26 (d := d_least_dead) rfl
  have hF : FnOk P w K mg base CX0 26 (He.ga K "least_dead") fd ["films", "seen", "dying"] (spLeast K) := by
    refine F.ok sc_least_dead (fun vs H Q E ⟨B, fs, se, dy, r, _⟩ => by have := r.length; simpa using this.symm) fun cdv A outer s H vs Q E hr h => ⟨_, PSs.nox pss_W, ?_⟩
    obtain ⟨B, fs, se, dy, r, pre, q⟩ := h
    have G : GX (cxOf CX0 P w K mg base N_least_dead "least_dead" (defScope s_least_dead) (He.ga K "least_dead") cdv A outer s H E).nox 25 := ⟨rfl, sc_least_dead.nd, hr⟩
    have E0 := env_r (N := N_least_dead) r
    have h3 := pre.f.h1
    have h4 : ∀ f ∈ fs, f.length ≤ 4 := fun f hf => (pre.f.ok f hf).h1
    obtain ⟨l0, f', rfl⟩ : ∃ l0 f', fs = l0 :: f' := by
      have := pre.f.h0
      cases fs with
      | nil => cases this
      | cons a b => exact ⟨_, _, rfl⟩
    refine s_do (P := fun _ _ => True) E0 (ed_call (A := fun H vs => RepL H [oFilms K B (l0 :: f')] vs) (ok_check_films T) (G.mono (by decide)) (ad_one (er_var 0 rfl)) fun vs H1 h Q q => ?_) fun v1 H1 s1 _ E1 => ?_
    · obtain ⟨v, rfl, rv⟩ := h.one
      exact ⟨B, l0 :: f', v, rfl, rv, pre.f, fun H' s' => q _ H' s' trivial⟩
    refine s_do (P := fun _ _ => True) E1 (ed_call (A := Ps [(BoP K B).p, fun H v => Rep H (oSeen K B se) v]) (ok_check_seen T) (G.mono (by decide)) (ap_cons (stb_PP _) (ed_fboard (B := B) (f := l0) T (ed_obj (er_ixt (er_var (d := oFilms K B (l0 :: f')) 0 rfl) er_int (atI_nat (j := 0) rfl)))) (ap_cons stb_R (er_var 1 rfl) ap_nil)) fun vs H2 h Q q => ?_) fun v2 H2 s2 _ E2 => ?_
    · obtain ⟨a, _, rfl, pa, b, _, rfl, pb, rfl⟩ := h
      exact ⟨B, se, a, b, rfl, pa, pb, pre.s, fun H' s' => q _ H' s' trivial⟩
    have hlen := accL_len (l0 :: f') se (dyB dy) h3 h4
    refine s_ret E2 (P := fun H v => Rep H (leastD (l0 :: f') se (dyB dy)) v) ?_ fun v H' s r => q v H' (s1.trans (s2.trans s)) r
    show ER _ _ _ _ (minO ((accL (l0 :: f') se (dyB dy)).map fun x => ((x.2 : Nat) : Int)))
    have hmD := @er_minD (cxOf CX0 P w K mg base N_least_dead "least_dead" (defScope s_least_dead) (He.ga K "least_dead") cdv A outer s H E).nox H2
    refine hmD G.calm G.hu T.tx.n_min ?_ er_non rfl ?_ rfl rfl rfl rfl rfl
    case refine_2 => rfl
    refine ED.imp (ed_lc (L := accL (l0 :: f') se (dyB dy)) (enc := dAccP) (fun _ => true) (fun x => .int (x.2 : Nat)) G [("truth", 3), ("account", 4), ("least", 5)]
      (src_lst (ed_call (P := Lst ((accL (l0 :: f') se (dyB dy)).map dAccP)) (A := fun H vs => RepL H [oFilms K B (l0 :: f'), oSeen K B se, dy] vs) (ok_accounts T) (G.mono (Nat.le_refl _)) (ad_cons (er_var 0 rfl) (ad_cons (er_var 1 rfl) (ad_one (er_var 2 rfl)))) fun vs H4 h Q q => ⟨B, l0 :: f', se, dy, h, pre.b, pre.f, pre.s, pre.d, fun v H' s' r => q v H' s' r⟩)) (blkOk_by (N := N_least_dead) (sc := defScope s_least_dead) (by decide +kernel)) (by omega)
      (fun s H0 C cl fp x hx => tg_tup3V 3 4 5 (by decide) (by decide) (by decide) G.nd G.calm)
      (fun s H0 C cl fp x hx => ts_nil)
      fun s H0 C cl fp x hx _ => er_var 5 rfl) fun H v h => ?_
    rw [filter_tt] at h
    rw [List.map_map]; exact h
  refine ⟨_, fd, _, fun us ws => us ++ ws, fun vs zs => vs ++ zs, T.tx.g_least_dead, F.kp, hF, ⟨?_, fun r1 r2 => r1.append r2⟩, fun _ _ => rfl⟩
  intro s us ws X l1 l2
  obtain ⟨oc, od, dV, kV, doc, pm, an, cdv, ct, osl, rfl, lk, hcd, hD, hK⟩ := F.ex; rcases hD with ⟨_, rfl⟩ | ⟨e, _⟩
  · rcases hK with e | ⟨D, rfl, _⟩
    · cases e
    · match us, l1, ws, l2 with
      | [a, b], _, [d], _ => exact .of_eq rfl
  · exact absurd rfl e
end
end K31
namespace K31
open L2 PySem PySem.Spec PyProof.Rows
section
variable {X : Cx} {Hz : Hp} {ρ : Rho} {o e a b : Expr} {es : List Expr} {pos p apos : Pos} {k : Nat} {B : Boards} {l : List Dot} {f : Films}
theorem ed_mkP (T : Ty X.K X.mg) (G : GX X 5) (hB : GoodB B) (hl : Lit B l) (ha : ED X Hz ρ a (BoP X.K B).p) (hb : ER X Hz ρ b (dLit l)) (hg : Gl X "Picture" := by rfl)
    (he : starEach [a, b] X.env = (false, eval a X.env) :: starEach [b] X.env := by rfl) (he2 : starEach [b] X.env = (false, eval b X.env) :: starEach [] X.env := by rfl) (hpl : (backTo pos (starEach [b] X.env)).any (·.1) = false := by rfl) : ED X Hz ρ (.Call (.Name "Picture" p) [a, b] [] pos) (PiP X.K B l).p :=
  ed_make (pre := fun H vs => ∃ v u, vs = [v, u] ∧ (BoP X.K B).p H v ∧ Rep H (dLit l) u ∧ Lit B l ∧ GoodB B) (A := Ps [(BoP X.K B).p, fun H v => Rep H (dLit l) v]) (k := 4) (T.mkr (x := "Picture") 107 rfl) (FnR.imp (ok_pinit T) fun vs H Q E h => ⟨B, l, h⟩) G T.tx.g_Picture (ap_cons (stb_PP _) ha (ap_cons stb_R hb ap_nil he2) he) (fun H vs s h => by
    obtain ⟨a, _, rfl, pa, b, _, rfl, pb, rfl⟩ := h
    exact ⟨a, b, rfl, pa, pb, hl, hB⟩) hg (by decide) he hpl
theorem ed_mkB (T : Ty X.K X.mg) (G : GX X 4) (hB : GoodB B) (ha : ER X Hz ρ a (dRows B)) (hg : Gl X "Board" := by rfl)
    (he : starEach [a] X.env = (false, eval a X.env) :: starEach [] X.env := by rfl) (hpl : (backTo pos (starEach [] X.env)).any (·.1) = false := by rfl) : ED X Hz ρ (.Call (.Name "Board" p) [a] [] pos) (BoP X.K B).p :=
  ed_make (pre := fun H vs => RepL H [dRows B] vs ∧ GoodB B) (A := fun H vs => RepL H [dRows B] vs) (k := 3) (T.mkr (x := "Board") 102 rfl) (FnR.imp (ok_binit T) fun vs H Q E h => ⟨B, h⟩) G T.tx.g_Board (ad_one ha he) (fun H vs s h => ⟨h, hB⟩) hg (by decide) he hpl
theorem ed_mkF (T : Ty X.K X.mg) (G : GX X 4) (h0 : 0 < f.length) (h1 : f.length ≤ 12) (ha : ER X Hz ρ a (oPs X.K B f)) (hg : Gl X "Film" := by rfl)
    (he : starEach [a] X.env = (false, eval a X.env) :: starEach [] X.env := by rfl) (hpl : (backTo pos (starEach [] X.env)).any (·.1) = false := by rfl) : ED X Hz ρ (.Call (.Name "Film" p) [a] [] pos) (FiP X.K B f).p :=
  ed_make (pre := fun H vs => ∃ u, vs = [u] ∧ Rep H (oPs X.K B f) u ∧ 0 < f.length ∧ f.length ≤ 12) (A := fun H vs => RepL H [oPs X.K B f] vs) (k := 3) (T.mkr (x := "Film") 112 rfl) (FnR.imp (ok_finit T) fun vs H Q E h => ⟨B, f, h⟩) G T.tx.g_Film (ad_one ha he) (fun H vs s h => by
    obtain ⟨u, rfl, ru⟩ := h.one
    exact ⟨u, rfl, ru, h0, h1⟩) hg (by decide) he hpl
end
section
variable {P : Program} {w : World}
variable {K : PySem.W.Frag} {mg : Str → Option Value} {base : Heap}
theorem ok_made_film (T : Ty K mg) : DefOk P w K mg base 6 "_law_made_film" (fun vs H Q _ => ∃ (B : Boards) (f : Films) (v u : V), vs = [v, u] ∧ (BoP K B).p H v ∧ Rep H (dFilm f) u ∧ GoodB B ∧ FilmOk B 12 f ∧ ∀ z H', Same H H' → (FiP K B f).p H' z → Q z H') := by
  refine T.tx.d__law_made_film (fun vs H Q E ⟨B, f, v, u, ev, _⟩ => by subst ev; rfl) fun X vs H Q E ⟨f, cdv, A, outer, s, e⟩ G ⟨B, fm, v, u, ev, hv, hu, hB, hf, q⟩ => ?_
  subst e ev
  have E := env_p (N := N__law_made_film) (Ps' := [BoP K B, R (dFilm fm)]) (vs := [v, u]) (H := H) (.cons hv (.cons hu .nil))
  have h1 := hf.h1
  refine s_ret E (ed_mkF (B := B) (f := fm) T (G.mono (by decide)) hf.h0 h1 (er_tupL T.tx.n_tuple (.imp (ed_lc (L := fm) (enc := dLit) (fun _ => true) (oP K B) G [("_law_lit_here", 2)] (src_tup (er_var 1 rfl)) (blkOk_by (N := N__law_made_film) (sc := defScope s_law_made_film) (by decide +kernel)) (by omega) (fun s H0 C cl fp x hx => tg_name 2 G.nd)
    (fun s H0 C cl fp x hx => ts_nil) fun s H0 C cl fp x hx _ => by
      refine ED.imp (P := (PiP K B x).p) ?_ fun H v p => .obj p
      exact ed_mkP T (GX.bk G) hB (hf.lit x hx) (ed_var 0 rfl) (er_var 2 rfl)) fun H v h => ?_))) fun v H' s r => q v H' s r
  rw [filter_tt] at h
  exact h
theorem ok_made_seen (T : Ty K mg) : DefOk P w K mg base 6 "_law_made_seen" (fun vs H Q _ => ∃ (B : Boards) (se : Seen) (v u : V), vs = [v, u] ∧ (BoP K B).p H v ∧ Rep H (dSeen se) u ∧ GoodB B ∧ SeenOk B se ∧ ∀ z H', Same H H' → Rep H' (oSeen K B se) z → Q z H') := by
  refine T.tx.d__law_made_seen (fun vs H Q E ⟨B, f, v, u, ev, _⟩ => by subst ev; rfl) fun X vs H Q E ⟨f, cdv, A, outer, s, e⟩ G ⟨B, se, v, u, ev, hv, hu, hB, hs, q⟩ => ?_
  subst e ev
  have E := env_p (N := N__law_made_seen) (Ps' := [BoP K B, R (dSeen se)]) (vs := [v, u]) (H := H) (.cons hv (.cons hu .nil))
  have h1 := hs.h1
  refine s_ret E (P := fun H v => Rep H (oSeen K B se) v) (er_tupL T.tx.n_tuple (.imp (ed_lc (L := se) (enc := dLook) (fun _ => true) (oLook K B) G [("_law_tick", 2), ("_law_lit_here", 3)] (src_tup (er_var 1 rfl)) (blkOk_by (N := N__law_made_seen) (sc := defScope s_law_made_seen) (by decide +kernel)) (by omega) (fun s H0 C cl fp x hx => tg_tup2 2 3 G.nd G.calm)
    (fun s H0 C cl fp x hx => ts_nil) fun s H0 C cl fp x hx _ => by
      refine er_t2 (er_var 2 rfl) ?_
      refine ED.imp (P := (PiP K B x.2).p) ?_ fun H v p => .obj p
      exact ed_mkP T (GX.bk G) hB (hs.lit x hx) (ed_var 0 rfl) (er_var 3 rfl)) fun H v h => ?_)) fun v H' s r => q v H' s r
  rw [filter_tt] at h
  exact h
theorem ok_made_films (T : Ty K mg) : DefOk P w K mg base 7 "_law_t_made_films" (fun vs H Q _ => ∃ (B : Boards) (fs : List Films) (v : V) (l : Addr), vs = [v, .ref l] ∧ (BoP K B).p H v ∧ LstAt H l (fs.map dFilm) ∧ GoodB B ∧ FilmsOk B fs ∧ ∀ z H', Same H H' → Rep H' (oFilms K B fs) z → Q z H') := by
  refine T.tx.d__law_t_made_films (fun vs H Q E ⟨B, f, v, u, ev, _⟩ => by subst ev; rfl) fun X vs H Q E ⟨f, cdv, A, outer, s, e⟩ G ⟨B, fs, v, u, ev, hv, hu, hB, hs, q⟩ => ?_
  subst e ev
  have E := env_p (N := N__law_t_made_films) (Ps' := [BoP K B, rf u]) (vs := [v, .ref u]) (H := H) (.cons hv (.cons rfl .nil))
  have h1 := hs.h1
  refine s_ret E (P := fun H v => Rep H (oFilms K B fs) v) (er_tupL T.tx.n_tuple (.imp (ed_lc (L := fs) (enc := dFilm) (fun _ => true) (oF K B) G [("_law_film_here", 2)] (src_lst (ed_here hu (ed_var 1 rfl))) (blkOk_by (N := N__law_t_made_films) (sc := defScope s_law_t_made_films) (by decide +kernel)) (by omega) (fun s H0 C cl fp x hx => tg_name 2 G.nd)
    (fun s H0 C cl fp x hx => ts_nil) fun s H0 C cl fp x hx _ => by
      refine ED.imp (P := (FiP K B x).p) ?_ fun H v p => .obj p
      refine ed_call (P := (FiP K B x).p) (A := Ps [(BoP K B).p, fun H v => Rep H (dFilm x) v]) (ok_made_film T) (GX.bk G) (ap_cons (stb_PP _) (ed_mkB T (GX.mono (GX.bk G) (by decide)) hB (er_prows T (GX.mono (GX.bk G) (by decide)) (ed_var 0 rfl))) (ap_cons stb_R (er_var 2 rfl) ap_nil)) fun vs H1 h Q q => ?_
      obtain ⟨a, _, rfl, pa, b, _, rfl, pb, rfl⟩ := h
      have := (hs.ok x hx).h1
      exact ⟨B, x, a, b, rfl, pa, pb, hB, ⟨(hs.ok x hx).h0, by omega, (hs.ok x hx).lit⟩, fun z H' s' => q z H' s'⟩) fun H v h => ?_)) fun v H' s r => q v H' s r
  rw [filter_tt] at h
  exact h
end
end K31
namespace K31
open L2 PySem PySem.Spec PyProof.Rows
/-! ### what was counted, as plain data -/
def pAcc (x : Acc) : PyData := .tuple [.int x.1.1, .int x.1.2, .int (x.2 : Nat)]
theorem enc_acc : Enc 1 dAcc pAcc where
  dp r := by
    cases r with
    | tup h1 r1 =>
      cases r1 with
      | cons ra t =>
        obtain ⟨v, u, rfl, rb, rc⟩ := t.two
        exact .tup (SqT.of h1) (.cons (enc_int.dp ra) (.cons (enc_int.dp rb) (.cons (enc_int.dp rc) .nil)))
  lay x := rfl
  dep x := by show max 0 (max 0 (max 0 0)) + 1 ≤ 1; decide
  eq x y := by
    show (PyData.eqv (.int x.1.1) (.int y.1.1) && (PyData.eqv (.int x.1.2) (.int y.1.2) && (PyData.eqv (.int (x.2 : Nat)) (.int (y.2 : Nat)) && true))) = true ↔ _
    obtain ⟨⟨a, b⟩, c⟩ := x
    obtain ⟨⟨a', b'⟩, c'⟩ := y
    rw [Bool.and_true, Bool.and_eq_true, Bool.and_eq_true, enc_int.eq, enc_int.eq, enc_int.eq]
    constructor
    · rintro ⟨e1, e2, e3⟩
      have e1 : a = a' := e1
      have e2 : b = b' := e2
      have e3 : (c : Int) = c' := e3
      have e3 : c = c' := by omega
      rw [e1, e2, e3]
    · intro e
      cases e
      exact ⟨rfl, rfl, rfl⟩
/-! ### repr -/
def ReprOk (d : PyData) : Prop := d.showable = true ∧ d.hasDict = false ∧ d.depth ≤ 60 ∧ d.shown.length ≤ sizeLine
section
variable {X : Cx} {Hz : Hp} {ρ : Rho} {e e2 : Expr} {pos p p' pos' cpos : Pos}
theorem call_reprD (hg : X.A.guards = some []) (hu : X.A.units + 64 < cLine) : CallR X (.builtin "repr") (fun xs H Q => ∃ x d, xs = [x] ∧ Dp X.K H x d ∧ ((∃ a, x = .ref a ∧ ReprOk d) ∨ (x = .non ∧ d = .none) ∨ ∃ i, x = .int i ∧ d = .int i ∧ i.natAbs.log2 < 1920) ∧ Q (.str d.shown) H) := by
  rintro pins s σ H xs us Q I r ⟨x, d, rfl, hd, hx, q⟩
  obtain ⟨u, rfl, ru⟩ := vals1 r; rcases hx with ⟨a, rfl, h1, h2, h3, h4⟩ | ⟨rfl, rfl⟩ | ⟨i, rfl, rfl, hi⟩
  · obtain ⟨as, rd⟩ := Dp.reads I d _ u hd ru
    obtain rfl : u = .ref a := ru
    exact repr_of_reads' rd h1 (PyData.noDict_hsm h2) hg (by omega) (fun _ _ z => z) (fun h' t' tk kp => ⟨.str _, H, I.kept kp, ⟨_, rfl⟩, q⟩) h4
  · obtain rfl : u = .none := ru
    exact PySem.P.repr_of_none ⟨.str _, H, I.tok _, ⟨_, rfl⟩, q⟩
  · obtain ⟨t, rfl⟩ : ∃ t, u = .int i t := ru
    exact PySem.P.repr_of_int hi ⟨.str _, H, I.tok _, ⟨_, rfl⟩, q⟩
theorem er_reprT {ds : List D} {d : PyData} (hgd : X.A.guards = some []) (hu : X.A.units + 64 < cLine) (hm : X.mg "repr" = none) (ok : ReprOk d) (hd : ∀ H v, Rep H (.tup ds) v → Dp X.K H v d) (h : ER X Hz ρ e (.tup ds)) (hg : Gl X "repr" := by rfl) (hs : starEach [e] X.env = (false, eval e X.env) :: starEach [] X.env := by rfl) (hpl : (backTo pos (starEach [] X.env)).any (·.1) = false := by rfl) : ER X Hz ρ (.Call (.Name "repr" p) [e] [] pos) (.str d.shown) :=
  ed_cb (call_reprD hgd hu) hm (by decide +kernel) (ad_one h hs) (fun vs H r Q q => by
    obtain ⟨v, rfl, rv⟩ := r.one
    have hv := hd H v rv
    cases rv with
    | tup h1 r1 => exact ⟨_, d, rfl, hv, .inl ⟨_, rfl, ok⟩, q _ H (Same.refl H) (.str _)⟩) hg (by decide) (by decide) hs hpl
def minP : List Int → PyData
  | [] => .none
  | n :: ns => .int (ns.foldl min n)
theorem er_reprM {ns : List Int} (hgd : X.A.guards = some []) (hu : X.A.units + 64 < cLine) (hm : X.mg "repr" = none) (hn : (minI ns).natAbs.log2 < 1920) (h : ER X Hz ρ e (minO ns)) (hg : Gl X "repr" := by rfl) (hs : starEach [e] X.env = (false, eval e X.env) :: starEach [] X.env := by rfl) (hpl : (backTo pos (starEach [] X.env)).any (·.1) = false := by rfl) : ER X Hz ρ (.Call (.Name "repr" p) [e] [] pos) (.str (minP ns).shown) :=
  ed_cb (call_reprD hgd hu) hm (by decide +kernel) (ad_one h hs) (fun vs H r Q q => by
    obtain ⟨v, rfl, rv⟩ := r.one
    cases ns with
    | nil =>
      cases rv
      exact ⟨_, .none, rfl, .non, .inr (.inl ⟨rfl, rfl⟩), q _ H (Same.refl H) (.str _)⟩
    | cons n ns =>
      cases rv
      exact ⟨_, .int _, rfl, .int _, .inr (.inr ⟨_, rfl, rfl, hn⟩), q _ H (Same.refl H) (.str _)⟩) hg (by decide) (by decide) hs hpl
end
theorem short_int : ∀ n : Nat, n ≤ 20 → PyData.leavesShort 8 (.int (n : Int)) = true ∧ ((n : Int).natAbs.log2 < 1920) ∧ PyData.weight (.int (n : Int)) ≤ 5 := by
  have : ∀ n : Fin 21, PyData.leavesShort 8 (.int ((n.val : Nat) : Int)) = true ∧ (((n.val : Nat) : Int).natAbs.log2 < 1920) ∧ PyData.weight (.int ((n.val : Nat) : Int)) ≤ 5 := by decide +kernel
  intro n hn
  exact this ⟨n, by omega⟩
/-- small numbers in it -/
def AccSm (x : Acc) : Prop := ∃ i j : Nat, x.1 = ((i : Int), (j : Int)) ∧ i ≤ 20 ∧ j ≤ 20 ∧ x.2 ≤ 20
theorem acc_ok {x : Acc} (h : AccSm x) : (pAcc x).showable = true ∧ (pAcc x).leavesShort 8 = true ∧ (pAcc x).weight ≤ 20 := by
  obtain ⟨i, j, e, hi, hj, hk⟩ := h
  unfold pAcc
  rw [e]
  obtain ⟨a1, a2, a3⟩ := short_int i hi
  obtain ⟨b1, b2, b3⟩ := short_int j hj
  obtain ⟨c1, c2, c3⟩ := short_int x.2 hk
  refine ⟨?_, ?_, ?_⟩
  · show (decide _ && (decide _ && (decide _ && true))) = true
    rw [decide_eq_true a2, decide_eq_true b2, decide_eq_true c2]; rfl
  · show (PyData.leavesShort 8 _ && (PyData.leavesShort 8 _ && (PyData.leavesShort 8 _ && true))) = true
    rw [a1, b1, c1]; rfl
  · show PyData.weight (.tuple [_, _, _]) ≤ 20
    rw [PyData.weight, PyData.weightAll, PyData.weightAll, PyData.weightAll, PyData.weightAll]
    have a3 : PyData.weight (.int ((i : Int), (j : Int)).1) ≤ 5 := a3
    have b3 : PyData.weight (.int ((i : Int), (j : Int)).2) ≤ 5 := b3
    omega
theorem accs_ok {l : List Acc} (h : ∀ x ∈ l, AccSm x) (hl : l.length ≤ 1000) : ReprOk (.tuple (l.map pAcc)) := by
  have key : ∀ l : List Acc, (∀ x ∈ l, AccSm x) → PyData.showableAll (l.map pAcc) = true ∧ PyData.leavesShortAll 8 (l.map pAcc) = true ∧ PyData.weightAll (l.map pAcc) ≤ 21 * l.length ∧ PyData.hasDictAll (l.map pAcc) = false := by
    intro l
    induction l with
    | nil => intro _; exact ⟨rfl, rfl, Nat.le_refl _, rfl⟩
    | cons x l ih =>
      intro h
      obtain ⟨a1, a2, a3⟩ := acc_ok (h x List.mem_cons_self)
      obtain ⟨b1, b2, b3, b4⟩ := ih fun y hy => h y (List.mem_cons_of_mem _ hy)
      refine ⟨?_, ?_, ?_, ?_⟩
      · show (PyData.showable (pAcc x) && _) = true
        rw [a1, b1]; rfl
      · show (PyData.leavesShort 8 (pAcc x) && _) = true
        rw [a2, b2]; rfl
      · rw [List.map_cons, PyData.weightAll, List.length_cons]; omega
      · show (PyData.hasDict (pAcc x) || _) = false
        rw [b4]; rfl
  obtain ⟨b1, b2, b3, b4⟩ := key l h
  refine ⟨b1, b4, ?_, PyData.shown_fits (B := 8) (by decide) (by decide) b2 ?_⟩
  · show PyData.depthAll (l.map pAcc) + 1 ≤ 60
    have := enc_acc.deps l
    omega
  · rw [PyData.weight]; omega
end K31
namespace K31
open L2 PySem PySem.Spec PyProof.Rows
theorem few20 {es : List Edge} (h : EdgesOk es) : fewN es ≤ 20 := by
  rw [← few_eq h.no]
  obtain ⟨⟨M, h1, h2⟩, _⟩ := maxN_is (es.map pEdge)
  rw [← h2]
  have := nodup_len (m := U20) h1.r fun x hx => by
    obtain ⟨z, hz, rfl⟩ := List.mem_map.mp hx
    obtain ⟨e, he, rfl⟩ := List.mem_map.mp (h1.sub _ hz)
    exact right_U h he
  rw [List.length_map] at this
  exact Nat.le_trans this (by decide)
theorem accL_sm {B : Boards} {fs : List Films} {se : Seen} {fd : Bool} (hB : GoodB B) (hf : FilmsOk B fs) (hs : SeenOk B se) : ∀ x ∈ accL fs se fd, AccSm x := by
  intro x hx
  unfold accL at hx
  obtain ⟨y, hy, hz⟩ := List.mem_filterMap.mp hx
  obtain ⟨es, he, rfl⟩ := Option.map_eq_some_iff.mp hz
  obtain ⟨n, b, g, e, h1, h2, h3⟩ := truth_at hy
  have hg : g ∈ fs := List.mem_of_getElem? h2
  have hn : n < fs.length := by
    rcases Nat.lt_or_ge n fs.length with h | h
    · exact h
    · rw [List.getElem?_eq_none (by omega)] at h2; cases h2
  have h31 := hf.h1
  have h41 := (hf.ok g hg).h1
  refine ⟨n, b, by rw [e], by omega, by omega, ?_⟩
  exact few20 (demands_ok (m := 4) hB (truthsFrom_ok fs 0 hf.ok y hy) hs he)
theorem minI_le {l : List Acc} (h : ∀ x ∈ l, AccSm x) (h0 : 0 < l.length) : ∃ k : Nat, k ≤ 20 ∧ minI (l.map fun x => ((x.2 : Nat) : Int)) = k := by
  cases l with
  | nil => cases h0
  | cons x l =>
    have key := (min_fold (l.map fun x => ((x.2 : Nat) : Int)) (x.2 : Nat)).1
    show ∃ k : Nat, k ≤ 20 ∧ (l.map fun x => ((x.2 : Nat) : Int)).foldl min ((x.2 : Nat) : Int) = k
    rcases key with e | e
    · obtain ⟨_, _, _, _, _, h3⟩ := h x List.mem_cons_self
      exact ⟨x.2, h3, e⟩
    · obtain ⟨y, hy, hz⟩ := List.mem_map.mp e
      obtain ⟨_, _, _, _, _, h3⟩ := h y (List.mem_cons_of_mem _ hy)
      exact ⟨y.2, h3, hz.symm⟩
end K31
namespace K31
open L2 PySem PySem.Spec PyProof.Rows
/-! ### defs under which nothing guards -/
def FnG (P : Program) (w : World) (K : PySem.W.Frag) (mg : Str → Option Value) (base : Heap) (k : Nat) (f : Addr) (sp : Sp) : Prop :=
  ∀ (A : Around) (stk : List PySem.Env) (t : Shared) (H : Hp) (args : List Value) (xs : List V) (Q : VK) (E : XK), A.guards = some [] → Room k A →
    Env0 P w K mg base A stk t H → Vals xs args → sp xs H Q E → codeAny (model P w) A (.call (.ref f) ⟨args, []⟩) (CR CX0 stk P w H t Q E) t
def DefG (P : Program) (w : World) (K : PySem.W.Frag) (mg : Str → Option Value) (base : Heap) (k : Nat) (x : Str) (sp : Sp) : Prop :=
  ∃ f, mg x = some (.ref f) ∧ PySem.W.keepIn K (.ref f) = true ∧ FnG P w K mg base k f sp
section
variable {P : Program} {w : World}
variable {K : PySem.W.Frag} {mg : Str → Option Value} {base : Heap}
theorem fnG_of {x qual : Str} {params : Arguments} {body : List Stmt} {scope : Scope} {dvs : List V} {kws : List (Str × V)} {f : Addr} {fd : FuncData} {N ps : List Str} {k : Nat} {sp : Sp}
    (F : FunD K x qual params body scope dvs kws f fd) (bnd : Binds K fd ps []) (S : FnScope N ps scope) (len : ∀ xs H Q E, sp xs H Q E → xs.length = ps.length)
    (walk : ∀ (cdv : Value) (A : Around) (stk : List PySem.Env) (t : Shared) (H : Hp) (xs : List V) (Q : VK) (E : XK), A.guards = some [] → Room k (A.deeper (envOfC qual scope t.heap.objs.size f cdv)) → sp xs H Q E →
      WSs (cxOf CX0 P w K mg base N qual scope f cdv A stk t H E).nox body { nx := fun _ H' => Q .non H', rt := Q } (L2.start N xs) H) : FnG P w K mg base (k + 1) f sp := by
  intro A stk t H args xs Q E gd room e0 rel hsp
  obtain ⟨oc, od, dV, kV, doc, pm, an, cdv, ct, osl, rfl, lk, hcd, _, _⟩ := F.ex; have nx := len _ _ _ _ hsp
  have na : args.length = ps.length := by rw [← rel.length, nx]
  have inK : K.In t.heap := e0.mod.kin.keeps fun b o z => (e0.bs b o z).1
  have bb := bnd t args inK (by rw [List.append_nil]; exact na)
  rw [List.append_nil] at bb
  have kinds : ∀ y ∈ ps.zip args, scope.names.lookup y.1 = some .local ∨ (scope.names.lookup y.1 = some .cell ∧ ((cellsFrom (t.heap.objs.size + 1) scope.names []).lookup y.1).isSome = true) := by
    rintro ⟨y, v⟩ hy
    have hp := (List.of_mem_zip hy).1
    cases S.par y hp with
    | inl q => exact Or.inl q
    | inr q => exact Or.inr ⟨q, PySem.W.cellsFrom_some _ _ _ (.inl q)⟩
  refine codeAny_call_function room.depth (inK _ _ lk) rfl S.co S.gen rfl (PySem.W.codeRec_of inK hcd) (bb _ _ _ _ ?_)
  refine wpAny_newFunctionEnv_cells S.kind kinds ?_
  intro env he t1 called
  subst he
  have lim : t.heap.NoLimit := e0.mod.nolimit.keeps fun b o z => (e0.bs b o z).1
  refine ⟨lim.keeps called.toInCall.keep, codeAny_func ?_⟩
  have I := inv_start (CX := CX0) (E := E) S room.hd e0 nx rel called
  have run := (PSs.nox (X := cxOf CX0 P w K mg base N qual scope f cdv A stk t H E) pss_W).run [] t1 _ H _ I (walk cdv A stk t H xs Q E gd (room.deeper _) hsp)
  refine wpAny_mono run ?_ fun _ _ z => z
  intro fl t2 hfl
  cases fl with
  | ret u => obtain ⟨v, σ', H', J, rv, q⟩ := hfl; exact ⟨v, H', J.os, J.bare, J.base, J.hok, rv, q⟩
  | next => obtain ⟨σ', H', J, q⟩ := hfl; exact ⟨.non, H', J.os, J.bare, J.base, J.hok, rfl, q⟩
  | brk => obtain ⟨_, _, _, q⟩ := hfl; exact q.elim
  | cont => obtain ⟨_, _, _, q⟩ := hfl; exact q.elim
theorem Tx.defG (T : Tx K mg) {x : Str} {st : Stmt} {N ps : List Str} {k : Nat} {sp : Sp} (hg : mg x = some (.ref (He.ga K x))) (j : Nat)
    (hj : fn[j]? = some ⟨(x, none), x, x, defArgs st, defBody st, defScope st, [], []⟩)
    (hb : ∀ (kV doc pm : Value) (an : Option Addr) (cdv ct : Value) (us : List Value), us.length = ps.length → bindArgs (PySem.W.fnOf x x (defArgs st) (defBody st) (defScope st) .none kV doc pm an cdv ct) ⟨us, []⟩ = pure (ps.zip us))
    (S : FnScope N ps (defScope st)) (len : ∀ vs H Q E, sp vs H Q E → vs.length = ps.length)
    (walk : ∀ (X : Cx) (vs : List V) (H : Hp) (Q : VK) (E : XK), (∃ f cdv A stk t, X = (cxOf CX0 P w K mg base N x (defScope st) f cdv A stk t H E).nox) → GX X k → X.A.guards = some [] → sp vs H Q E → WSs X (defBody st) { nx := fun _ H' => Q .non H', rt := Q } (L2.start N vs) H) :
    DefG P w K mg base (k + 1) x sp := by
  obtain ⟨fd, F⟩ := T.says.def_ j hj
  refine ⟨_, hg, F.kp, fnG_of (N := N) F (F.bindsN hb) S len fun cdv A stk t H vs Q E gd room hsp => ?_⟩
  exact walk _ vs H Q E ⟨_, cdv, A, stk, t, rfl⟩ ⟨rfl, S.nd, room⟩ gd hsp
end
section
variable {X : Cx} {σ : L2.St} {H : Hp} {e : Expr} {es : List Expr} {pos p : Pos} {k : Nat} {x : Str} {sp : Sp}
theorem we_callG {Q : VK} (F : DefG X.prog X.w X.K X.mg X.base k x sp) (G : GX X k) (gd : X.A.guards = some []) (h : WA X (e :: es) σ H fun vs H1 => sp vs H1 Q E0) (hg : Gl X x := by rfl) (hd : (x == ("__debug__" : Str)) = false := by decide)
    (he : starEach (e :: es) X.env = (false, eval e X.env) :: starEach es X.env := by rfl) (hpl : (backTo pos (starEach es X.env)).any (·.1) = false := by rfl) : WE X (.Call (.Name x p) (e :: es) [] pos) σ H Q := by
  obtain ⟨f, hm, kp, hF⟩ := F
  intro pins t I
  refine wpAny_Call_Name_kw (ld_glob I hg hm ?_ hd); have args := h pos pins t I
  refine PySem.W.callWith_K (h₀ := X.base) I.ok.mod.kin kp (thn args ?_) he hpl
  rintro us t1 ⟨vs, H1, I1, rel, hsp⟩
  refine ⟨I1.kIn, wpAny_call (codeAny_mono (hF X.A X.stack t1 H1 us vs Q E0 gd G.room I1.env0 rel hsp) ?_)⟩
  intro res t2 hres
  cases res with
  | error er => exact pass0 pins σ H1 t1 er t2 I1 hres
  | ok fl =>
    cases fl with
    | ret u => exact I1.after hres
    | next => exact hres.elim
    | brk => exact hres.elim
    | cont => exact hres.elim
end
end K31
namespace K31
open L2 PySem PySem.Spec PyProof.Rows
section
variable {X : Cx} {ρ : Rho} {e : Expr} {es : List Expr} {pos pp : Pos} {k c : Nat} {x : Str} {p0 : Addr} {α : Type} {ds : α → List D} {pre : α → Prop}
theorem dd_callF {d : α → D} {P : List D → Prop} {P' : D → Prop} (F : DefOk X.prog X.w X.K X.mg X.base k x (spF ds pre d)) (G : GX X k) (ha : DA X ρ p0 c (e :: es) P) (h : ∀ l, P l → ∃ z, l = ds z ∧ pre z ∧ P' (d z)) (hg : Gl X x := by rfl) (hd : (x == ("__debug__" : Str)) = false := by decide)
    (he : starEach (e :: es) X.env = (false, eval e X.env) :: starEach es X.env := by rfl) (hpl : (backTo pos (starEach es X.env)).any (·.1) = false := by rfl) : DD X ρ p0 c (.Call (.Name x pp) (e :: es) [] pos) P' := by
  refine ⟨fun σ H n Q E hp hn q => we_call F G ?_ hg hd he hpl⟩
  refine ha.run σ H n _ E hp hn fun l vs H1 pl s1 hp1 r1 => ?_
  obtain ⟨z, rfl, hz, hq⟩ := h l pl
  exact ⟨z, r1, hz, fun v H2 s2 r2 => q _ v H2 hq (s1.trans (.of s2)) (hp1.same s2) r2⟩
end
theorem nat_of {i : Int} (h : 0 ≤ i) : ∃ n : Nat, i = n := ⟨i.toNat, by omega⟩
/-- what a drawn cell gives -/
def spRight : Sp := fun vs H Q _ => ∃ (p : Addr) (n : Nat), vs = [.ref p] ∧ Pot p n H ∧ n + 3000 ≤ LIMP ∧ ∀ H', SameBut p H H' → Pot p (n + 3000) H' → Q (.bl true) H'
section
variable {P : Program} {w : World}
variable {K : PySem.W.Frag} {mg : Str → Option Value} {base : Heap}
theorem ok_right (T : Ty K mg) : DefG P w K mg base 27 "_law_right" spRight := by
  refine T.tx.defG T.tx.g__law_right 63 rfl (fun _ _ _ _ _ _ us hl => match us, hl with | [_], _ => rfl) sc__law_right (fun vs H Q E ⟨p, n, ev, _⟩ => by subst ev; rfl) fun X vs H Q E ⟨f, cdv, A, outer, s, e⟩ G gd ⟨p, n, ev, hp, hn, q⟩ => ?_
  subst e ev
  have hn' : n + 3000 ≤ 1000000 := hn
  have E := env_p (N := N__law_right) (Ps' := [rf p]) (vs := [.ref p]) (H := H) (.cons rfl .nil)
  refine s_dd 1 (c := 103) (P := fun d => ∃ B, GoodB B ∧ d = dRows B) G E hp (by show n + 103 ≤ 1000000; omega) (dd_call (c' := 2) (ok_rows T.tx) (G.mono (by decide)) (fun _ => ed_var 0 rfl)
    (da_cons (c1 := 1) (dd_add (c1 := 0) (c2 := 1) (P := fun d => ∃ i : Int, d = .int i ∧ 0 < i ∧ i ≤ 10) (dd_er fun _ => er_int) (dd_take (ok_take T.tx) G (by decide) (fun _ => ed_var 0 rfl) (fun _ => er_int) ⟨by decide, by decide⟩) fun d d' e1 ⟨i, e2, i0, i1⟩ => ⟨1, i, e1, e2, 1 + i, rfl, by omega, by omega⟩)
      (da_cons (c1 := 1) (dd_add (c1 := 0) (c2 := 1) (P := fun d => ∃ i : Int, d = .int i ∧ 0 < i ∧ i ≤ 10) (dd_er fun _ => er_int) (dd_take (ok_take T.tx) G (by decide) (fun _ => ed_var 0 rfl) (fun _ => er_int) ⟨by decide, by decide⟩) fun d d' e1 ⟨i, e2, i0, i1⟩ => ⟨1, i, e1, e2, 1 + i, rfl, by omega, by omega⟩) da_nil))
    (fun l ⟨_, _, e1, ⟨i, e2, i0, i1⟩, _, _, e3, ⟨j, e4, j0, j1⟩, e5⟩ => by
      subst e1 e3 e5 e2 e4
      obtain ⟨i, rfl⟩ := nat_of (Int.le_of_lt i0)
      obtain ⟨j, rfl⟩ := nat_of (Int.le_of_lt j0)
      exact ⟨(i, j), rfl, ⟨by show 0 < i; omega, by show i ≤ 10; omega, by show 0 < j; omega, by show j ≤ 10; omega⟩, fun d h => h⟩)) fun d σ1 H1 ⟨B, hB, ed⟩ sb1 hp1 E1 => ?_
  subst ed
  refine s_par2 2 3 G ?_
  refine we_call (ok_t_films T.tx) (G.mono (by decide)) (.by (pa_cons pe_W (pa_cons pe_W (pa_cons pe_W pa_nil))) ?_)
  refine (ed_var (P := rf p) 0 rfl).run _ _ _ E1.en fun v H2 s2 ev => ?_
  obtain rfl : v = .ref p := ev
  refine (er_var (d := dRows B) 1 rfl).run _ _ _ (E1.same s2).en fun vr H3 s3 rB => ?_
  refine er_int.run _ _ _ ((E1.same s2).same s3).en fun v3 H4 s4 r3 => ?_
  cases r3
  refine ⟨p, n + 103, B, vr, rfl, rB.le (.of s4), ((hp1.same s2).same s3).same s4, by show n + 103 + 2000 ≤ 1000000; omega, hB, fun fs lf H5 hfs sb5 hp5 hL5 => ?_⟩
  have E5 := (((E1.same s2).same s3).same s4).le ((((hp1.same s2).same s3).same s4).le sb5)
  refine (ed_mkB (B := B) T (G.mono (by decide)) hB (er_var 1 rfl)).run _ _ _ E5.en fun vb H6 s6 pb => ?_
  have sb6 := ((((sb1.trans (.of s2)).trans (.of s3)).trans (.of s4)).trans sb5).trans (.of s6)
  have hp6 := hp5.same s6
  have hL6 := hL5.same s6
  have E6 := ((E5.same s6).set 2 (P := rf lf) (v := .ref lf) rfl).set 3 (P := BoP K B) pb
  have hf0 := hfs.h0
  have hf1 := hfs.h1
  have hlp : lf ≠ p := by
    refine pot_ne_tup hp6 hL6 fun d hd => ?_
    obtain ⟨f, _, rfl⟩ := List.mem_map.mp hd
    rfl
  refine s_mid 4 G (fun v H7 => ∃ f, f ∈ fs ∧ Rep H7 (dFilm f) v ∧ SameBut p H6 H7 ∧ Pot p (n + 103 + 2000 + 1) H7) ?_ fun v7 H7 ⟨f0, hf0m, rv7, sb7, hp7⟩ => ?_
  · refine we_of (ok_of T.tx) G (by decide) E6 hp6 (by show n + 103 + 2000 + 1 ≤ 1000000; omega) (fun _ => ed_var 0 rfl) (ed_here hL6 (ed_var 2 rfl)) (films_ne hf0 (by omega)) fun d v H7 hd s7 hp7 rv => ?_
    obtain ⟨f, hf, rfl⟩ := List.mem_map.mp hd
    exact ⟨f, hf, rv, s7, hp7⟩
  have E7 := (E6.le (hp6.le sb7)).set 4 (P := R (dFilm f0)) rv7
  have hL7 := hL6.draw hp6 sb7 hlp
  have hfo := hfs.ok f0 hf0m
  have hfo0 := hfo.h0
  have hfo1 := hfo.h1
  have dl0 : (f0.map dLit).length = f0.length := List.length_map ..
  refine s_dd 5 (c := 222) (P := fun d => ∃ se, SeenOk B se ∧ d = dSeen se) G E7 hp7 (by show n + 103 + 2000 + 1 + 222 ≤ 1000000; omega) (dd_call (c' := 22) (ok_drawn_seen T.tx) (G.mono (by decide)) (fun _ => ed_var 0 rfl)
    (da_cons (c1 := 0) (dd_er fun _ => er_var (d := dRows B) 1 rfl) (da_cons (c1 := 1) (dd_callF (c := 1) (P' := fun d => ∃ b : Nat, d = dFilm (turnBy f0 b)) (ok_t_begun T.tx) (G.mono (by decide)) (da_cons (c1 := 0) (dd_er fun _ => er_var (d := dFilm f0) 4 rfl) (da_cons (c1 := 1) (dd_take (u := (f0.length : Nat)) (ok_take T.tx) G (by decide) (fun _ => ed_var 0 rfl) (fun _ => .is (er_lenT T.tx.n_len (er_var (d := dFilm f0) 4 rfl)) (by rw [dl0])) ⟨by omega, by omega⟩) da_nil)) (fun l ⟨_, _, e1, e2, _, _, e3, ⟨i, e4, i0, i1⟩, e5⟩ => by
        subst e1 e3 e5 e2 e4
        obtain ⟨i, rfl⟩ := nat_of i0
        exact ⟨(f0, i), rfl, by show f0.length ≤ 1000; omega, i, rfl⟩))
      (da_cons (c1 := 21) (dd_call (c' := 0) (P' := fun d => ∃ x y, d = dDead (x, y) ∧ x.length ≤ 20 ∧ y.length ≤ 20) (ok_dead T.tx) (G.mono (by decide)) (fun _ => ed_var 0 rfl) (da_cons (c1 := 0) (dd_er fun _ => er_var (d := dRows B) 1 rfl) (da_cons (c1 := 0) (dd_er fun _ => er_int) da_nil)) (fun l ⟨_, _, e1, e2, _, _, e3, e4, e5⟩ => by
        subst e1 e3 e5 e2 e4
        exact ⟨(B, 8), rfl, ⟨hB, by show 8 ≤ 100; decide⟩, fun d h => h⟩)) (da_cons (c1 := 0) (dd_er fun _ => er_int) da_nil))))
    (fun l ⟨_, _, e1, e2, _, _, e3, ⟨b, e4⟩, _, _, e5, ⟨x, y, e6, x1, y1⟩, _, _, e7, e8, e9⟩ => by
      subst e1 e3 e5 e7 e9 e2 e4 e6 e8
      exact ⟨(B, turnBy f0 b, (x, y)), rfl, ⟨hB, (let h := FilmOk.turn (a := b) hfo; ⟨h.h0, Nat.le_trans h.h1 (by decide), h.lit⟩), x1, y1⟩, fun d h => h⟩)) fun d σ8 H8 ⟨se, hse, ed⟩ sb8 hp8 E8 => ?_
  subst ed
  have hL8 := hL7.draw hp7 sb8 hlp
  refine s_par2 6 7 G ?_
  refine (ed_callS (P := fun H v => Rep H (oFilms K B fs) v) (A := Ps [(BoP K B).p, (rf lf).p]) (ok_made_films T) (G.mono (by decide)) (ap_cons (stb_PP _) (ed_var 3 rfl) (ap_cons (stb_PP _) (ed_var 2 rfl) ap_nil)) fun vs H9 s9 h Q q => ?_).run _ _ _ E8.en fun v9 H9 s9 r9 => ?_
  · obtain ⟨a, _, rfl, pa, b, _, rfl, rfl, rfl⟩ := h
    exact ⟨B, fs, a, lf, rfl, pa, hL8.same s9, hB, hfs, fun z H' s' => q z H' s'⟩
  refine (ed_call (P := fun H v => Rep H (oSeen K B se) v) (A := Ps [(BoP K B).p, fun H v => Rep H (dSeen se) v]) (ok_made_seen T) (G.mono (by decide)) (ap_cons (stb_PP _) (ed_mkB T (G.mono (by decide)) hB (er_var 1 rfl)) (ap_cons stb_R (er_var 5 rfl) ap_nil)) fun vs H10 h Q q => ?_).run _ _ _ (E8.same s9).en fun v10 H10 s10 r10 => ?_
  · obtain ⟨a, _, rfl, pa, b, _, rfl, pb, rfl⟩ := h
    exact ⟨B, se, a, b, rfl, pa, pb, hB, hse, fun z H' s' => q z H' s'⟩
  have E10 := (((E8.same s9).same s10).set 6 (P := R (oFilms K B fs)) (r9.le (.of s10))).set 7 (P := R (oSeen K B se)) r10
  have hL10 := (hL8.same s9).same s10
  have sb10 : SameBut p H H10 := (((sb6.trans sb7).trans sb8).trans (.of s9)).trans (.of s10)
  have hp10 : Pot p (n + 3000) H10 := ((hp8.same s9).same s10).mono (by omega)
  let ρ8 : Rho := [some (rf p), some (R (dRows B)), some (rf lf), some (BoP K B), some (R (dFilm f0)), some (R (dSeen se)), some (R (oFilms K B fs)), some (R (oSeen K B se)), none, none, none, none, none]
  have E10 : Env ρ8 _ H10 := E10
  have hpre : ∀ dy, DyOk dy → PreT B fs se dy := fun dy h => ⟨hB, hfs, hse, h⟩
  refine s_forT (ds := [.bl false, .bl true]) G .never E10 (er_tup (ad_cons er_bl (ad_one er_bl))) fun a vs H11 s11 ha rl E11 => ?_
  refine ⟨fun i σ' H' => Same H11 H' ∧ Env ρ8 σ' H', ⟨.refl _, E11⟩, fun i σ' H' ⟨s, _⟩ => s _ _ ha, fun i d v σ' H' hd ⟨sJ, E'⟩ hv => ?_, fun σ' H' ⟨sJ, E'⟩ => ?_⟩
  · have rv : Rep H' d v := by
      obtain ⟨d', e, r⟩ := rl.getV hv
      rw [hd] at e; cases e
      exact r.le (.of sJ)
    obtain ⟨fd, rfl⟩ : ∃ fd, d = .bl fd := by
      match i, hd with
      | 0, hd => cases hd; exact ⟨_, rfl⟩
      | 1, hd => cases hd; exact ⟨_, rfl⟩
    refine g_name 8 G ?_
    have E12 := E'.set 8 (P := R (.bl fd)) rv
    have hLl : LstAt H' lf (fs.map dFilm) := (hL10.same s11).same sJ
    have hsm := accL_sm (fd := fd) hB hfs hse
    have hal := accL_len fs se fd hf1 fun f hf => (hfs.ok f hf).h1
    generalize hA : accL fs se fd = As at hsm hal
    refine s_setL 9 (ds := As.map dAcc) G E12 (ed_callS (A := Ps [(rf lf).p, fun H v => Rep H (dSeen se) v, fun H v => Rep H (.bl fd) v]) (ok_fewest_all T.tx) (G.mono (by decide)) (ap_cons (stb_PP _) (ed_var 2 rfl) (ap_cons stb_R (er_var 5 rfl) (ap_cons stb_R (er_var 8 rfl) ap_nil))) fun vs H13 s13 h Q q => ?_) fun la σ14 H14 s14 hLa E14 => ?_
    · obtain ⟨a, _, rfl, rfl, b, _, rfl, pb, c, _, rfl, pc, rfl⟩ := h
      exact ⟨lf, B, fs, se, fd, b, c, rfl, hLl.same s13, pb, pc, hB, hfs, hse, fun l' H' hl' s' hL => q _ H' s' (by rw [← hA]; exact hL.lst)⟩
    refine s_set 10 (d := minO (As.map fun x => ((x.2 : Nat) : Int))) G E14 (.is (er_if (k := decide (As = [])) (td_eqEL enc_acc (by decide) G (ed_here hLa (ed_var 9 rfl)) (ed_lst (ds := ([] : List Acc).map dAcc) ad_nil)) (fun _ => er_non) fun hk => er_minL (ns := As.map fun x => ((x.2 : Nat) : Int)) G.calm ?_ T.tx.n_min (.imp (ed_lc (L := As) (enc := dAcc) (fun _ => true) (fun x => .int (x.2 : Nat)) G [("_law_row", 12)] (src_lst (ed_here hLa (ed_var 9 rfl))) (blkOk_by (N := N__law_right) (sc := defScope s_law_right) (by decide +kernel)) (by omega) (fun s H0 C cl fp x hx => tg_name 12 G.nd)
      (fun s H0 C cl fp x hx => ts_nil) fun s H0 C cl fp x hx _ => er_ixt (er_var (d := dAcc x) 12 rfl) er_int rfl) fun H v h => ?_)) ?_) fun σ15 H15 s15 E15 => ?_
    · rw [List.length_map]
      rcases As with _ | ⟨x, l⟩
      · cases hk
      · exact Nat.succ_pos _
    · rw [filter_tt] at h
      rw [List.map_map]; exact h
    · rcases As with _ | ⟨x, l⟩
      · rfl
      · rfl
    have hmn : (minI (As.map fun x => ((x.2 : Nat) : Int))).natAbs.log2 < 1920 := by
      rcases As with _ | ⟨x, l⟩
      · decide
      · obtain ⟨k, hk, e⟩ := minI_le hsm (Nat.succ_pos _)
        rw [e]; exact (short_int k hk).2.1
    have hle : ∀ dy, dyB dy = fd → leastD fs se (dyB dy) = minO (As.map fun x => ((x.2 : Nat) : Int)) := fun dy h => by rw [h, ← hA]; rfl
    let ns : List Int := As.map fun x => ((x.2 : Nat) : Int)
    have hany : (minO ns).isAny = false := by
      show (minO (As.map _)).isAny = false
      rcases As with _ | ⟨x, l⟩ <;> rfl
    refine s_skip E15 (.is (td_neS (er_reprM (ns := ns) gd G.hu64 T.tx.n_repr hmn (ed_callK (P := fun H v => Rep H (minO ns) v) (A := fun H vs => RepL H [oFilms K B fs, oSeen K B se] vs) (d2 := .bl fd) (ok_least T) (G.mono (Nat.le_refl _)) (ad_cons (er_var 6 rfl) (ad_one (er_var 7 rfl))) stb_L (fun H vs h => h.length.symm) (er_var 8 rfl) fun vs v H16 s16 hr hv Q q => ⟨B, fs, se, .bl fd, hr.append (.cons hv .nil), hpre _ (.inl ⟨fd, rfl⟩), fun z H' s' r => q z H' s' (by rw [hle _ rfl] at r; exact r)⟩)) (er_reprM (ns := ns) gd G.hu64 T.tx.n_repr hmn (er_var 10 rfl))) (by simp)) fun H16 s16 E16 => ?_
    refine s_skip E16 (.is (td_and (td_not (td_val (er_var (d := .bl fd) 8 rfl))) (fun hk => td_neS (er_reprM (ns := ns) gd G.hu64 T.tx.n_repr hmn (ed_callK (P := fun H v => Rep H (minO ns) v) (A := fun H vs => RepL H [oFilms K B fs, oSeen K B se] vs) (d2 := .int 1) (ok_least T) (G.mono (Nat.le_refl _)) (ad_cons (er_var 6 rfl) (ad_one (er_var 7 rfl))) stb_L (fun H vs h => h.length.symm) er_int fun vs v H17 s17 hr hv Q q => ⟨B, fs, se, .int 1, hr.append (.cons hv .nil), hpre _ (.inr ⟨1, rfl⟩), fun z H' s' r => q z H' s' (by rw [hle (.int 1) (by cases fd with | true => cases hk | false => rfl)] at r; exact r)⟩)) (er_reprM (ns := ns) gd G.hu64 T.tx.n_repr hmn (er_var 10 rfl)))) (by simp)) fun H17 s17 E17 => ?_
    let bs : List Int := if As = [] then [0, 20] else [(if minI ns - 1 > 0 then minI ns - 1 else 0), minI ns, 20]
    have hbs : ∀ b ∈ bs, 0 ≤ b ∧ b ≤ 20 := by
      intro b hb
      show _ ∧ _
      by_cases hn : As = []
      · have e : bs = [0, 20] := if_pos hn
        rw [e] at hb
        simp at hb
        omega
      · have e : bs = [(if minI ns - 1 > 0 then minI ns - 1 else 0), minI ns, 20] := if_neg hn
        obtain ⟨k, hk, ek⟩ := minI_le hsm (by rcases As with _ | ⟨x, l⟩ <;> first | exact absurd rfl hn | exact Nat.succ_pos _)
        have ek : minI ns = k := ek
        rw [e, ek] at hb; rcases List.mem_cons.mp hb with h | h
        · subst h
          split <;> omega
        · rcases List.mem_cons.mp h with h | h
          · omega
          · rw [List.mem_singleton.mp h]; omega
    refine s_forM (ds := bs.map D.int) G .never E17 (ed_if (td_isN (d := minO ns) hany (er_var 10 rfl)) (fun hk => ?_) fun hk => ?_) fun H18 a18 s18 hL18 E18 => ?_
    · have hn : As = [] := by
        rcases As with _ | ⟨x, l⟩
        · rfl
        · cases hk
      have e : bs = [0, 20] := if_pos hn
      rw [e]
      exact ed_lst (ds := [.int 0, .int 20]) (ad_cons er_int (ad_one er_int))
    · have hn : As ≠ [] := by
        intro z; subst z; cases hk
      have e : bs = [(if minI ns - 1 > 0 then minI ns - 1 else 0), minI ns, 20] := if_neg hn
      have em : minO ns = .int (minI ns) := by
        rcases As with _ | ⟨x, l⟩
        · exact absurd rfl hn
        · rfl
      rw [e]
      refine ed_lst (ds := [.int (if minI ns - 1 > 0 then minI ns - 1 else 0), .int (minI ns), .int 20]) (ad_cons (er_max2 G.calm T.tx.n_max er_int (er_sub (.is (er_var 10 rfl) em) (er_int (i := 1)))) (ad_cons (.is (er_var 10 rfl) em) (ad_one er_int))) (by show 3 ≤ 1000; decide)
    let ρ9 : Rho := [some (rf p), some (R (dRows B)), some (rf lf), some (BoP K B), some (R (dFilm f0)), some (R (dSeen se)), some (R (oFilms K B fs)), some (R (oSeen K B se)), some (R (.bl fd)), some (rf la), some (R (minO ns)), none, none]
    have sL : Same H' H17 := s14.trans (s15.trans (s16.trans s17))
    refine ⟨fun i σ2 H2 => Same H18 H2 ∧ Env ρ9 σ2 H2, ⟨.refl _, E18⟩, fun i σ2 H2 ⟨s2, _⟩ => ⟨.of s2, ?_⟩, fun j d v σ2 H2 hd ⟨s2, E2⟩ rv => ?_, fun σ2 H2 ⟨s2, E2⟩ => s_nil ⟨(sJ.trans sL).trans (s18.trans s2), E2.fg (.k (.k (.k (.k (.k (.k (.k (.k (.d (.d (.d (.k (.k .nil)))))))))))))⟩⟩
    · obtain ⟨us, e, _⟩ := hL18
      rw [e, s2 _ _ e]
    · obtain ⟨b, hb, rfl⟩ := get_map hd
      obtain ⟨b0, b1⟩ := hbs b (List.mem_of_getElem? hb)
      refine g_name 11 G ?_
      have E3 := E2.set 11 (P := R (.int b)) rv
      have ht : toldL fs se fd b = As.filter fun x => decide (((x.2 : Nat) : Int) ≤ b) := by rw [← hA]; rfl
      have hok : ReprOk (.tuple ((toldL fs se fd b).map pAcc)) := accs_ok (fun x hx => hsm x (by rw [ht] at hx; exact (List.mem_filter.mp hx).1)) (by
        rw [ht]
        have := List.length_filter_le (fun x : Acc => decide (((x.2 : Nat) : Int) ≤ b)) As
        omega)
      have hLb : LstAt H2 la (As.map dAcc) := ((((hLa.same s15).same s16).same s17).same s18).same s2
      refine s_skip E3 (.is (td_neS (er_reprT (ds := (toldL fs se fd b).map dAcc) gd G.hu64 T.tx.n_repr hok (fun H v r => enc_acc.tup.dp r) (ed_callK (P := fun H v => Rep H (.tup ((toldL fs se fd b).map dAcc)) v) (A := fun H vs => RepL H [oFilms K B fs, oSeen K B se, .int b] vs) (d2 := .bl fd) (ok_told T) (G.mono (Nat.le_refl _)) (ad_cons (er_var 6 rfl) (ad_cons (er_var 7 rfl) (ad_one (er_var 11 rfl)))) stb_L (fun H vs h => h.length.symm) (er_var 8 rfl) fun vs v H4 s4 hr hv Q q => ⟨B, fs, se, b, .bl fd, hr.append (.cons hv .nil), hpre _ (.inl ⟨fd, rfl⟩), b0, b1, fun z H' s' r => q z H' s' r⟩))
        (er_reprT (ds := (toldL fs se fd b).map dAcc) gd G.hu64 T.tx.n_repr hok (fun H v r => enc_acc.tup.dp r) (er_tupL T.tx.n_tuple (.imp (ed_lc (L := As) (enc := dAcc) (fun x => decide (((x.2 : Nat) : Int) ≤ b)) dAcc G [("_law_row", 12)] (src_lst (ed_here hLb (ed_var 9 rfl))) (blkOk_by (N := N__law_right) (sc := defScope s_law_right) (by decide +kernel)) (by omega) (fun s H0 C cl fp x hx => tg_name 12 G.nd)
          (fun s H0 C cl fp x hx => ts_one (td_le (er_ixt (er_var (d := dAcc x) 12 rfl) er_int rfl) (er_var 11 rfl))) fun s H0 C cl fp x hx _ => er_var 12 rfl) fun H v h => ?_)))) (by simp)) fun H5 s5 E5 => s_nil ⟨s2.trans s5, E5.fg (.k (.k (.k (.k (.k (.k (.k (.k (.k (.k (.k (.d (.k .nil)))))))))))))⟩
      rw [ht]; exact h
  · refine s_ret E' er_bl fun v H' s r => ?_
    cases r
    exact q H' ((sb10.trans (.of s11)).trans ((SameBut.of sJ).trans (.of s))) (((hp10.same s11).same sJ).same s)
end
end K31
namespace K31
open L2 PySem PySem.Spec PyProof.Rows
section
variable {X : Cx} {ρ : Rho} {a b e : Expr} {es : List Expr} {pos pp : Pos} {k c c1 c2 : Nat} {p0 : Addr}
theorem dd_right (F : DefG X.prog X.w X.K X.mg X.base k "_law_right" spRight) (G : GX X k) (gd : X.A.guards = some []) (hρ : ∀ Hz, ED X Hz ρ e (rf p0).p) (hg : Gl X "_law_right" := by rfl)
    (he : starEach [e] X.env = (false, eval e X.env) :: starEach [] X.env := by rfl) (hpl : (backTo pos (starEach [] X.env)).any (·.1) = false := by rfl) : DD X ρ p0 3000 (.Call (.Name "_law_right" pp) [e] [] pos) (fun d => d = .bl true) := by
  refine ⟨fun σ H n Q E hp hn q => we_callG F G gd (.by (pa_cons pe_W pa_nil he) ?_) hg (by decide) he hpl⟩
  refine (hρ H).run σ H _ E.en fun v H1 s1 ev => ?_
  obtain rfl : v = .ref p0 := ev
  exact ⟨p0, n, rfl, hp.same s1, hn, fun H' sb hp' => q (.bl true) _ H' rfl ((SameBut.of s1).trans sb) hp' (.bl true)⟩
theorem dt_notB {j : Bool} (h : DD X ρ p0 c a fun d => d = .bl j) (he : ∀ whole, isTrue a X.env whole = (do let v ← whole; standAt a.pos; holding [v] (truthy v)) := by intro _; rfl) : DT X ρ p0 c (.UnaryOp .Not a pos) (fun r => r = !j) := by
  refine ⟨fun σ H n Q E hp hn q => .by (pt_not (pt_val pe_W he)) ?_⟩
  refine h.run σ H n _ E hp hn fun d v H1 ed sb hp1 rv => ?_
  subst ed
  cases rv
  exact ⟨j, rfl, q _ H1 rfl sb hp1⟩
theorem dt_or2 (h1 : DT X ρ p0 c1 a fun r => r = false) (h2 : DT X ρ p0 c2 b fun r => r = false) : DT X ρ p0 (c1 + c2) (.BoolOp .Or [a, b] pos) (fun r => r = false) := by
  refine ⟨fun σ H n Q E hp hn q => .by (PW.pt (pw_or pt_W (pw_or1 pt_W))) ?_⟩
  refine h1.run σ H n _ E hp (by omega) fun r1 H1 e1 sb1 hp1 => ?_
  subst e1
  refine iteF (h2.run σ H1 (n + c1) _ (E.le (hp.le sb1)) hp1 (by omega) fun r2 H2 e2 sb2 hp2 => ?_)
  subst e2
  exact q false H2 rfl (sb1.trans sb2) (by rw [← Nat.add_assoc]; exact hp2)
end
theorem sql_same {K : PySem.W.Frag} {H H' : Hp} {a : Addr} {xs : List V} (h : SqL K H a xs) (s : Same H H') : SqL K H' a xs := by
  rcases (h) with (h | ⟨o, h⟩) | h
  · exact .inl (.inl (s _ _ h))
  · exact .inl (.inr ⟨o, s _ _ h⟩)
  · exact .inr h
/-- the script: frozen, or of the module -/
def ScP (K : PySem.W.Frag) (a : Addr) (xs : List V) : PP := ⟨fun H v => v = .ref a ∧ ((∃ o, H a = some (.frz o (.lst xs))) ∨ SqL K (fun _ => none) a xs), fun l ⟨e, h⟩ => ⟨e, h.elim (fun ⟨o, z⟩ => .inl ⟨o, l _ _ z rfl⟩) .inr⟩⟩
theorem sql_sc {K : PySem.W.Frag} {a : Addr} {xs : List V} {H : Hp} {v : V} (h : (ScP K a xs).p H v) : v = .ref a ∧ SqL K H a xs := by
  obtain ⟨e, ⟨o, z⟩ | (⟨z | ⟨o, z⟩⟩ | z)⟩ := h
  · exact ⟨e, .inl (.inr ⟨o, z⟩)⟩
  · cases z
  · cases z
  · exact ⟨e, .inr z⟩
theorem sc_of {K : PySem.W.Frag} {a : Addr} {xs : List V} {H : Hp} (h : SqL K H a xs) (hO : Only H) : (ScP K a xs).p H (.ref a) := by
  refine ⟨rfl, ?_⟩; rcases h with (h | ⟨o, h⟩) | h
  · rcases hO a with z | ⟨o, ys, z⟩
    · rw [h] at z; cases z
    · rw [h] at z; cases z
  · exact .inl ⟨o, h⟩
  · exact .inr (.inr h)
/-- what the law asks of the script -/
def spLaw (K : PySem.W.Frag) : Sp := fun vs H Q _ => ∃ (a : Addr) (ns : List Int), vs = [.ref a] ∧ SqL K H a (ns.map V.int) ∧ Only H ∧ ns.length ≤ 63 ∧ ∀ H', Q (.bl true) H'
section
variable {P : Program} {w : World}
variable {K : PySem.W.Frag} {mg : Str → Option Value} {base : Heap}
theorem ok_law (T : Ty K mg) : DefG P w K mg base 28 "law" (spLaw K) := by
  refine T.tx.defG T.tx.g_law 64 rfl (fun _ _ _ _ _ _ us hl => match us, hl with | [_], _ => rfl) sc_law (fun vs H Q E ⟨a, ns, ev, _⟩ => by subst ev; rfl) fun X vs H Q E ⟨f, cdv, A, outer, s, e⟩ G gd ⟨a, ns, ev, hS, hO, hl, q⟩ => ?_
  subst e ev
  have E := env_p (N := N_law) (Ps' := [ScP K a (ns.map V.int)]) (vs := [.ref a]) (H := H) (.cons (sc_of hS hO) .nil)
  refine s_forR (n := if (if ((ns.length : Nat) : Int) < 3 then ((ns.length : Nat) : Int) else 3) > 1 then (if ((ns.length : Nat) : Int) < 3 then ((ns.length : Nat) : Int) else 3) else 1) G .never T.tx.n_range (by constructor <;> (repeat' split) <;> omega) E (er_max2 G.calm T.tx.n_max er_int (er_min2 G.calm T.tx.n_min er_int (ed_cb (PA' := Ps [(ScP K a (ns.map V.int)).p]) call_len_seq T.tx.n_len PySem.boot_len (ap_cons (stb_PP _) (ed_var 0 rfl) ap_nil) fun vs H r Q q => ?_))) (fun i σ' H' => Env [some (ScP K a (ns.map V.int)), none, none] σ' H') (fun H1 s1 E1 => E1) (fun i σ' H' hi E' => ?_) fun σ' H' E' => ?_
  · obtain ⟨v, _, rfl, hv, rfl⟩ := r
    obtain ⟨rfl, hq⟩ := sql_sc hv
    exact ⟨a, ns.map V.int, rfl, .inl hq, by rw [List.length_map]; exact q _ H (Same.refl H) (.int _)⟩
  · have hi3 : i ≤ 2 := by
      revert hi
      repeat' split
      all_goals omega
    refine g_name 1 G ?_
    have E1 := E'.set 1 (P := R (.int (i : Int))) (.int _)
    refine s_mid 2 G (fun v H2 => ∃ p, v = .ref p ∧ Same H' H2 ∧ Pot p 0 H2) (we_call (ok_pot T.tx) (G.mono (by decide)) (.by (pa_cons pe_W (pa_cons pe_W pa_nil)) ?_)) fun v H2 ⟨p, ev, s2, hp2⟩ => ?_
    · refine (ed_var (P := ScP K a (ns.map V.int)) 0 rfl).run _ _ _ E1.en fun v H2 s2 hv => ?_
      refine (er_var (d := .int (i : Int)) 1 rfl).run _ _ _ (E1.same s2).en fun u H3 s3 hu => ?_
      obtain ⟨rfl, hq⟩ := sql_sc ((ScP K a (ns.map V.int)).le (.of s3) hv)
      cases hu
      exact ⟨a, ns, i, rfl, hq, hl, hi3, fun p H4 hp s4 hP => ⟨p, rfl, (s2.trans s3).trans s4, hP⟩⟩
    · subst ev
      have E2 := (E1.same s2).set 2 (P := rf p) (v := .ref p) rfl
      refine s_ifD (c := 6000) (Pb := fun r => r = false) (fun σ' H' => Env [some (ScP K a (ns.map V.int)), none, none] σ' H') E2 hp2 (by show 0 + 6000 ≤ 1000000; decide) (dt_or2 (c1 := 3000) (c2 := 3000) (dt_notB (j := true) (dd_right (ok_right T) (G.mono (by decide)) gd fun _ => ed_var 2 rfl)) (dt_notB (j := true) (dd_right (ok_right T) (G.mono (by decide)) gd fun _ => ed_var 2 rfl))) (fun z => by cases z) (fun _ H3 sb3 hp3 E3 => s_nil (E3.fg (.k (.d (.d .nil))))) fun σ' H' m => s_nil m
  · exact s_ret E' er_bl fun v H1 s1 r => by cases r; exact q H1
end
end K31
namespace K31
open L2 PySem PySem.Spec PyProof.Rows
/-! ### the end -/
theorem ints_rel {xs : List Value} {ns : List Int} (h : IntsAre xs ns) : Vals (ns.map V.int) xs := by
  induction h with
  | nil => exact .nil
  | cons n t _ ih => exact .cons ⟨t, rfl⟩ ih
/-- the script as an object of its own, of a heap in which nothing else is tracked -/
def scH (a : Addr) (o : Obj) (ns : List Int) : Hp := fun b => if b = a then some (.frz o (.lst (ns.map V.int))) else none
theorem scH_at {a : Addr} {o : Obj} {ns : List Int} : scH a o ns a = some (.frz o (.lst (ns.map V.int))) := if_pos rfl
theorem scH_ne {a b : Addr} {o : Obj} {ns : List Int} (h : b ≠ a) : scH a o ns b = none := if_neg h
section
variable {P : Program} {w : World} {K : PySem.W.Frag} {mg mb : Str → Option Value} {k : Nat} {f a : Addr} {sp : Sp} {t : Shared} {xs : List Value} {ns : List Int}
/-- what holds of the state when nothing but the script is tracked -/
structure Alone (P : Program) (w : World) (K : PySem.W.Frag) (a : Addr) (ns : List Int) (t : Shared) (H : Hp) : Prop where
  only : Only H
  seq : SqL K H a (ns.map V.int)
  ok : HOk P w H t.heap
  just : ∀ b, b ≠ a → H b = none
  out : K.lookup a ≠ none → H a = none
theorem run_alone {H : Hp} (inK : K.In t.heap) (gl : t.heap.Ns mainGlobals mg) (bn : t.heap.Ns builtinsNs mb) (bb : ∀ x : Str, x ≠ "__name__" → mb x = bootBuiltins x) (nl : t.heap.NoLimit) (gens : t.gens = #[])
    (obj : t.heap.get? a = some { cls := .type "list", data := .seq xs.toArray }) (room : Room k callerA) (F : ∀ base : Heap, K.In base → base.Ns mainGlobals mg → FnG P w K mg base k f sp)
    (hsp : ∀ H : Hp, Only H → SqL K H a (ns.map V.int) → sp [.ref a] H (fun v _ => v = .bl true) fun _ _ _ => False) (Z : Alone P w K a ns t H) :
    codeAny (model P w) callerA (.call (.ref f) ⟨[.ref a], []⟩) (fun r t' => r = .ok (.ret (.bool true)) ∧ OldK t.heap t'.heap ∧ t'.os = t.os ∧ AllBare t'.gens) t := by
  have stays : ∀ {b : Addr} {o : Obj}, t.heap.get? b = some o → H b = none → (hidT t.heap H).get? b = some o := hidT_get
  have dicts : ∀ {b : Addr} {o : Obj} {es : Array DictEntry} {ep : Nat}, t.heap.get? b = some o → o.data = .dict es ep → H b = none := by
    intro b o es ep hb hd
    by_cases hba : b = a
    · rw [hba, obj] at hb
      cases hb
      exact absurd (show Data.seq xs.toArray _ = Data.dict es ep from hd) (fun z => by cases z)
    · exact Z.just b hba
  have spaces : ∀ {b : Addr} {m : Str → Option Value}, t.heap.Ns b m → (hidT t.heap H).Ns b m := by
    rintro b m ⟨o, es, ep, h1, h2, h3⟩
    exact ⟨o, es, ep, stays h1 (dicts h1 h2), h2, h3⟩
  have inB : K.In (hidT t.heap H) := by
    intro b o hb
    refine stays (inK b o hb) ?_
    by_cases hba : b = a
    · subst hba
      exact Z.out (by rw [hb]; intro z; cases z)
    · exact Z.just b hba
  have lim : (hidT t.heap H).NoLimit := let ⟨m, h1, h2⟩ := nl; ⟨m, spaces h1, h2⟩
  have e0 : Env0 P w K mg (hidT t.heap H) callerA [] t H := by
    refine ⟨rfl, ⟨inB, spaces gl, ⟨mb, spaces bn, bb⟩, lim⟩, fun b o hb => of_hidT hb, Nat.le_of_eq (hidT_size _ _), trivial, ?_, Z.ok, .of_eq gens⟩
    intro b hb
    exact absurd (show b ∈ ([] : List Addr) from hb) (by simp)
  have call := F _ inB (spaces gl) callerA [] t H [.ref a] [.ref a] _ _ rfl room e0 (.cons rfl .nil) (hsp H Z.only Z.seq)
  refine codeAny_mono call ?_
  intro res t' hres
  cases res with
  | error e => exact hres.elim
  | ok fl =>
    cases fl with
    | next => exact hres.elim
    | brk => exact hres.elim
    | cont => exact hres.elim
    | ret u =>
      obtain ⟨v, H', os, bare, un, ok', rv, ev⟩ := hres
      have ev : v = .bl true := ev
      subst ev
      obtain rfl : u = Value.bool true := rv
      refine ⟨rfl, OldK.of_keep ?_, os, bare⟩
      intro b o hb
      rcases hH : H b with _ | z
      · exact un.keep b o hb hH (by intro z; exact absurd (show b ∈ ([] : List Addr) from z) (by simp)) (by simp)
      · rcases Z.only b with h | ⟨o2, ys, h⟩
        · rw [hH] at h; cases h
        · have old := (Z.ok b _ h).1
          have new := (ok' b _ (un.frzs b o2 _ h)).1
          rw [hb] at old
          cases old
          exact new
theorem law_runs (inK : K.In t.heap) (gl : t.heap.Ns mainGlobals mg) (bn : t.heap.Ns builtinsNs mb) (bb : ∀ x : Str, x ≠ "__name__" → mb x = bootBuiltins x) (nl : t.heap.NoLimit) (gens : t.gens = #[])
    (obj : t.heap.get? a = some { cls := .type "list", data := .seq xs.toArray }) (hin : IntsAre xs ns) (small : ns.length ≤ sizeLine) (room : Room k callerA) (F : ∀ base : Heap, K.In base → base.Ns mainGlobals mg → FnG P w K mg base k f sp)
    (hsp : ∀ H : Hp, Only H → SqL K H a (ns.map V.int) → sp [.ref a] H (fun v _ => v = .bl true) fun _ _ _ => False) :
    codeAny (model P w) callerA (.call (.ref f) ⟨[.ref a], []⟩) (fun r t' => r = .ok (.ret (.bool true)) ∧ OldK t.heap t'.heap ∧ t'.os = t.os ∧ AllBare t'.gens) t := by
  have rel := ints_rel hin
  have hlen : (ns.map V.int).length = xs.length := rel.length
  by_cases hk : K.lookup a = none
  · refine run_alone (H := scH a { cls := .type "list", data := .seq xs.toArray } ns) inK gl bn bb nl gens obj room F hsp ⟨?_, .inl (.inr ⟨_, scH_at⟩), ?_, fun b hb => scH_ne hb, fun z => absurd hk z⟩
    · intro b
      by_cases hb : b = a
      · subst hb; exact .inr ⟨_, _, scH_at⟩
      · exact .inl (scH_ne hb)
    · intro b u hu
      by_cases hb : b = a
      · subst hb
        rw [scH_at] at hu
        cases hu
        exact ⟨obj, by rw [List.length_map]; exact small, xs, _, rel, obj⟩
      · rw [scH_ne hb] at hu; cases hu
  · obtain ⟨o, ho⟩ := Option.ne_none_iff_exists'.mp hk
    have e := inK a o ho
    rw [obj] at e
    cases e
    refine run_alone (H := fun _ => none) inK gl bn bb nl gens obj room F hsp ⟨fun _ => .inl rfl, .inr ⟨_, xs.toArray, _, ho, rfl, rfl, rfl, ?_, by simpa using rel⟩, fun b u z => ?_, fun _ _ => rfl, fun _ => rfl⟩
    · rw [List.size_toArray, ← hlen, List.length_map]; exact small
    · exact absurd z (fun y => by cases y)
end
theorem ty_of {K : PySem.W.Frag} {mg : Str → Option Value} {h : Heap} (inK : K.In h) (gl : h.Ns mainGlobals mg) (e1 : exX K = va1) (e2 : fnX K = va2) : Ty K mg := by
  obtain ⟨a1, a2⟩ := Prod.mk.inj e1
  obtain ⟨a2, a3⟩ := Prod.mk.inj a2
  obtain ⟨a3, a4⟩ := Prod.mk.inj a3
  obtain ⟨b1, b2⟩ := Prod.mk.inj e2
  refine ⟨⟨?_, h, inK, gl⟩, a1, a3, a4⟩
  show ((fa.all fun f => f.ok K) && fn.all fun d => d.ok K, fn.map fun d => He.fnW K d.at_) = He.valD fn
  rw [a2, b1, b2]
  rfl
theorem walks : PySem.W.WalkO qv names (PySem.W.XL qv []) hkX.says (PySem.W.OpenLaw.row PySem.Challenge.rw_wiresindark_k31_whole_least_dead_on_grea).toRowW (HandSHeadRun.topDef RowO.prog 117) [] fun f vs => PySem.call f vs := by
  refine Att.attach_call (l := PySem.Challenge.rw_wiresindark_k31_whole_least_dead_on_grea) (n := 63) rfl (by kernel_rfl) ?_
  intro w s₀ t mg mb f o pm cd doc a xs ns ground says ho hd hcd hmg obj hin len gens
  obtain ⟨K, inK, e1, e2⟩ := says
  have T : Ty K mg := ty_of inK ground.T.g e1 e2
  have hmg : mg ("law" : PySem.Str) = some (.ref f) := by
    have e : (HandSHeadRun.topDef RowO.prog 117).name = ("law" : PySem.Str) := by kernel_rfl
    rw [← e]
    exact hmg
  refine law_runs (k := 28) (sp := spLaw K) inK ground.T.g ground.T.b ground.T.builtins ground.T.nolimit gens obj hin (Nat.le_trans len (by decide)) ⟨rfl, by decide, by decide⟩ ?_ fun H hO hS => ⟨a, ns, rfl, hS, hO, len, fun _ => rfl⟩
  intro base _ _
  obtain ⟨f', hf', _, hF⟩ := ok_law (P := (PySem.Challenge.rw_wiresindark_k31_whole_least_dead_on_grea).prog) (w := w) (base := base) T
  rw [hmg] at hf'
  cases hf'
  exact hF
end K31
open PyProof.Rows PySem PySem.W PySem.Calls
theorem PySem.Challenge.cw_wiresindark_k31_whole_least_dead_on_grea_holds : PySem.Challenge.rw_wiresindark_k31_whole_least_dead_on_grea.Holds := by
  w_on; o_law
  refine HandSHeadRun.head_any (r := OpenLaw.row PySem.Challenge.rw_wiresindark_k31_whole_least_dead_on_grea) (q := K31.qv) (H := K31.hkX) (ob := K31.obT) (M := 20000) (loose := K31.names) (d := HandSHeadRun.topDef (OpenLaw.row PySem.Challenge.rw_wiresindark_k31_whole_least_dead_on_grea).prog 117) (kwd := []) K31.obT_eq
    (by kernel_rfl) (fun s => by kernel_rfl) K31.run (by kernel_rfl) (by kernel_rfl) (by kernel_rfl) (by rfl) (by first | assumption | decide +kernel) (by decide +kernel) ⟨rfl, rfl, rfl, rfl, rfl, by decide +kernel⟩ ?hw ?hc
  case hw => w_witness2
  case hc => exact K31.walks
