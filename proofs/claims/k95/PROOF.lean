import PyProof.Rows.All
import Wide.All
import OpenK.AllK
import Wide.FinOn
import KE.KStateDown
import HandS.ForMost
import HandS.Defaults
import HandS.HeadHook1
import HandS.HeadHook2
import Lean
import HandS.Head0
import HandS.Head1
import HandS.Head2
import HandS.HeadEnd
import HandS.Walk
import HandS.Style
import HandS.Conv
import HandS.TupAny
import HandS.Zip
import HandS.Evl
import HandS.IsInst
import HandS.TupLen
import HandS.Wide
import HandS.SortInts
import KE.GoesMore
import HandS.TupSets
import PyProof.Rows.SortShell
import HandS.More
import HandS.Strs
import HandS.SetBool
import HandS.SetKeys
import HandS.DictComp
import HandS.Iter
import HandS.List
import HandS.Comp
import HandS.MakeKwOnly
import PyProof.ReprRoads
import PyProof.ReprBulk
import PyProof.Rows.StrJoinMade
import HandS.DeepEq
import PySem.Challenge.RW_lackcry_k95_whole_what_one_hears_alone
/-! LkText -/
set_option Elab.async false
set_option linter.all false
set_option maxRecDepth 100000
set_option maxHeartbeats 4000000
/-! The text by places, the defs' data, the facts asked of the head. -/
namespace Lk
open PySem PySem.Spec PyProof.Rows L2
def top (i : Nat) : Stmt := PySem.Challenge.pw_lackcry_k95_whole_what_one_hears_alone.main.body.getD i (.Pass ⟨0, 0, 0, 0⟩)
abbrev s_is_whole : Stmt := top 18
abbrev s_choose : Stmt := top 19
abbrev s_lot_at : Stmt := top 20
abbrev s_number_of : Stmt := top 21
abbrev s_lots : Stmt := top 22
abbrev s_is_prime : Stmt := top 24
abbrev s_is_file : Stmt := top 25
abbrev s_piece : Stmt := top 26
abbrev s_is_number : Stmt := top 28
abbrev s_is_wishes : Stmt := top 29
abbrev s_wished : Stmt := top 30
abbrev s_first_wishers : Stmt := top 31
abbrev s_leaders : Stmt := top 32
abbrev s_plain_hands : Stmt := top 34
abbrev s_made : Stmt := top 35
abbrev s_made_with : Stmt := top 36
abbrev s_next_hand : Stmt := top 37
abbrev s_made_at : Stmt := top 38
abbrev s_sign_of : Stmt := top 40
abbrev s_sign : Stmt := top 41
abbrev s_without : Stmt := top 42
abbrev s_with_hand : Stmt := top 43
abbrev s_terms : Stmt := top 46
abbrev s_cry : Stmt := top 47
abbrev s_made_lots : Stmt := top 48
abbrev s_cries : Stmt := top 49
abbrev s_inverse : Stmt := top 51
abbrev s_lessened : Stmt := top 52
abbrev s_Solving_init : Stmt := inClass (top 53) 0
abbrev s_Solving_clear : Stmt := inClass (top 53) 1
abbrev s_Solving_others_in : Stmt := inClass (top 53) 2
abbrev s_Solving_is_single : Stmt := inClass (top 53) 3
abbrev s_Solving_behind : Stmt := inClass (top 53) 4
abbrev s_weights_at : Stmt := top 55
abbrev s_weighed_sum : Stmt := top 56
abbrev s_place_weights : Stmt := top 57
abbrev s_spare : Stmt := top 58
abbrev s_with_spares : Stmt := top 59
abbrev s_has : Stmt := top 61
abbrev s_shelf : Stmt := top 62
abbrev s_own_number : Stmt := top 65
abbrev s_lacked : Stmt := top 66
abbrev s_row_of : Stmt := top 67
abbrev s_known_by : Stmt := top 68
abbrev s_is_within : Stmt := top 73
abbrev s_may_be_spares : Stmt := top 74
abbrev s_Day_init : Stmt := inClass (top 75) 0
abbrev s_House_init : Stmt := inClass (top 76) 0
abbrev s_House_set_day : Stmt := inClass (top 76) 4
abbrev s_House_refuse_by_day : Stmt := inClass (top 76) 6
abbrev s_House_refuse_no_hand : Stmt := inClass (top 76) 7
abbrev s_House_bring : Stmt := inClass (top 76) 8
abbrev s_House_drop : Stmt := inClass (top 76) 9
abbrev s_House_files : Stmt := inClass (top 76) 10
abbrev s_House_day : Stmt := inClass (top 76) 12
abbrev s_House_next_number : Stmt := inClass (top 76) 13
abbrev s_House_call : Stmt := inClass (top 76) 14
abbrev s_House_away : Stmt := inClass (top 76) 16
abbrev s_House_home : Stmt := inClass (top 76) 17
abbrev s_House_night : Stmt := inClass (top 76) 18
abbrev s_House_heard : Stmt := inClass (top 76) 20
abbrev s_House_weights_of : Stmt := inClass (top 76) 21
abbrev s_House_pieces : Stmt := inClass (top 76) 22
abbrev s_House_knows : Stmt := inClass (top 76) 23
abbrev s_law_pot : Stmt := top 78
abbrev s_law_take : Stmt := top 79
abbrev s_law_of : Stmt := top 80
abbrev s_law_lots : Stmt := top 81
abbrev s_law_leaders : Stmt := top 82
abbrev s_law_made : Stmt := top 83
abbrev s_law_files : Stmt := top 84
abbrev s_law_third : Stmt := top 85
abbrev s_law_alike : Stmt := top 86
abbrev s_law : Stmt := top 87
def d_is_whole : He.DefD := ⟨("is_whole", none), "is_whole", "is_whole", defArgs s_is_whole, defBody s_is_whole, defScope s_is_whole, [], []⟩
def d_choose : He.DefD := ⟨("choose", none), "choose", "choose", defArgs s_choose, defBody s_choose, defScope s_choose, [], []⟩
def d_lot_at : He.DefD := ⟨("lot_at", none), "lot_at", "lot_at", defArgs s_lot_at, defBody s_lot_at, defScope s_lot_at, [], []⟩
def d_number_of : He.DefD := ⟨("number_of", none), "number_of", "number_of", defArgs s_number_of, defBody s_number_of, defScope s_number_of, [], []⟩
def d_lots : He.DefD := ⟨("lots", none), "lots", "lots", defArgs s_lots, defBody s_lots, defScope s_lots, [], []⟩
def d_is_prime : He.DefD := ⟨("is_prime", none), "is_prime", "is_prime", defArgs s_is_prime, defBody s_is_prime, defScope s_is_prime, [], []⟩
def d_is_file : He.DefD := ⟨("is_file", none), "is_file", "is_file", defArgs s_is_file, defBody s_is_file, defScope s_is_file, [], []⟩
def d_piece : He.DefD := ⟨("piece", none), "piece", "piece", defArgs s_piece, defBody s_piece, defScope s_piece, [], []⟩
def d_is_number : He.DefD := ⟨("is_number", none), "is_number", "is_number", defArgs s_is_number, defBody s_is_number, defScope s_is_number, [], []⟩
def d_is_wishes : He.DefD := ⟨("is_wishes", none), "is_wishes", "is_wishes", defArgs s_is_wishes, defBody s_is_wishes, defScope s_is_wishes, [], []⟩
def d_wished : He.DefD := ⟨("wished", none), "wished", "wished", defArgs s_wished, defBody s_wished, defScope s_wished, [], []⟩
def d_first_wishers : He.DefD := ⟨("first_wishers", none), "first_wishers", "first_wishers", defArgs s_first_wishers, defBody s_first_wishers, defScope s_first_wishers, [], []⟩
def d_leaders : He.DefD := ⟨("leaders", none), "leaders", "leaders", defArgs s_leaders, defBody s_leaders, defScope s_leaders, [], []⟩
def d_plain_hands : He.DefD := ⟨("plain_hands", none), "plain_hands", "plain_hands", defArgs s_plain_hands, defBody s_plain_hands, defScope s_plain_hands, [], []⟩
def d_made : He.DefD := ⟨("made", none), "made", "made", defArgs s_made, defBody s_made, defScope s_made, [], []⟩
def d_made_with : He.DefD := ⟨("made_with", none), "made_with", "made_with", defArgs s_made_with, defBody s_made_with, defScope s_made_with, [], []⟩
def d_next_hand : He.DefD := ⟨("next_hand", none), "next_hand", "next_hand", defArgs s_next_hand, defBody s_next_hand, defScope s_next_hand, [], []⟩
def d_made_at : He.DefD := ⟨("made_at", none), "made_at", "made_at", defArgs s_made_at, defBody s_made_at, defScope s_made_at, [], []⟩
def d_sign_of : He.DefD := ⟨("sign_of", none), "sign_of", "sign_of", defArgs s_sign_of, defBody s_sign_of, defScope s_sign_of, [], []⟩
def d_sign : He.DefD := ⟨("sign", none), "sign", "sign", defArgs s_sign, defBody s_sign, defScope s_sign, [], []⟩
def d_without : He.DefD := ⟨("without", none), "without", "without", defArgs s_without, defBody s_without, defScope s_without, [], []⟩
def d_with_hand : He.DefD := ⟨("with_hand", none), "with_hand", "with_hand", defArgs s_with_hand, defBody s_with_hand, defScope s_with_hand, [], []⟩
def d_terms : He.DefD := ⟨("terms", none), "terms", "terms", defArgs s_terms, defBody s_terms, defScope s_terms, [], []⟩
def d_cry : He.DefD := ⟨("cry", none), "cry", "cry", defArgs s_cry, defBody s_cry, defScope s_cry, [], []⟩
def d_made_lots : He.DefD := ⟨("made_lots", none), "made_lots", "made_lots", defArgs s_made_lots, defBody s_made_lots, defScope s_made_lots, [], []⟩
def d_cries : He.DefD := ⟨("cries", none), "cries", "cries", defArgs s_cries, defBody s_cries, defScope s_cries, [], []⟩
def d_inverse : He.DefD := ⟨("inverse", none), "inverse", "inverse", defArgs s_inverse, defBody s_inverse, defScope s_inverse, [], []⟩
def d_lessened : He.DefD := ⟨("lessened", none), "lessened", "lessened", defArgs s_lessened, defBody s_lessened, defScope s_lessened, [], []⟩
def d_Solving_init : He.DefD := ⟨("Solving", some "__init__"), "__init__", "Solving.__init__", defArgs s_Solving_init, defBody s_Solving_init, defScope s_Solving_init, [], []⟩
def d_Solving_clear : He.DefD := ⟨("Solving", some "clear"), "clear", "Solving.clear", defArgs s_Solving_clear, defBody s_Solving_clear, defScope s_Solving_clear, [], []⟩
def d_Solving_others_in : He.DefD := ⟨("Solving", some "others_in"), "others_in", "Solving.others_in", defArgs s_Solving_others_in, defBody s_Solving_others_in, defScope s_Solving_others_in, [], []⟩
def d_Solving_is_single : He.DefD := ⟨("Solving", some "is_single"), "is_single", "Solving.is_single", defArgs s_Solving_is_single, defBody s_Solving_is_single, defScope s_Solving_is_single, [], []⟩
def d_Solving_behind : He.DefD := ⟨("Solving", some "behind"), "behind", "Solving.behind", defArgs s_Solving_behind, defBody s_Solving_behind, defScope s_Solving_behind, [], []⟩
def d_weights_at : He.DefD := ⟨("weights_at", none), "weights_at", "weights_at", defArgs s_weights_at, defBody s_weights_at, defScope s_weights_at, [], []⟩
def d_weighed_sum : He.DefD := ⟨("weighed_sum", none), "weighed_sum", "weighed_sum", defArgs s_weighed_sum, defBody s_weighed_sum, defScope s_weighed_sum, [], []⟩
def d_place_weights : He.DefD := ⟨("place_weights", none), "place_weights", "place_weights", defArgs s_place_weights, defBody s_place_weights, defScope s_place_weights, [], []⟩
def d_spare : He.DefD := ⟨("spare", none), "spare", "spare", defArgs s_spare, defBody s_spare, defScope s_spare, [], []⟩
def d_with_spares : He.DefD := ⟨("with_spares", none), "with_spares", "with_spares", defArgs s_with_spares, defBody s_with_spares, defScope s_with_spares, [], []⟩
def d_has : He.DefD := ⟨("has", none), "has", "has", defArgs s_has, defBody s_has, defScope s_has, [], []⟩
def d_shelf : He.DefD := ⟨("shelf", none), "shelf", "shelf", defArgs s_shelf, defBody s_shelf, defScope s_shelf, [], []⟩
def d_own_number : He.DefD := ⟨("own_number", none), "own_number", "own_number", defArgs s_own_number, defBody s_own_number, defScope s_own_number, [], []⟩
def d_lacked : He.DefD := ⟨("lacked", none), "lacked", "lacked", defArgs s_lacked, defBody s_lacked, defScope s_lacked, [], []⟩
def d_row_of : He.DefD := ⟨("row_of", none), "row_of", "row_of", defArgs s_row_of, defBody s_row_of, defScope s_row_of, [], []⟩
def d_known_by : He.DefD := ⟨("known_by", none), "known_by", "known_by", defArgs s_known_by, defBody s_known_by, defScope s_known_by, [], []⟩
def d_is_within : He.DefD := ⟨("is_within", none), "is_within", "is_within", defArgs s_is_within, defBody s_is_within, defScope s_is_within, [], []⟩
def d_may_be_spares : He.DefD := ⟨("may_be_spares", none), "may_be_spares", "may_be_spares", defArgs s_may_be_spares, defBody s_may_be_spares, defScope s_may_be_spares, [], []⟩
def d_Day_init : He.DefD := ⟨("Day", some "__init__"), "__init__", "Day.__init__", defArgs s_Day_init, defBody s_Day_init, defScope s_Day_init, [], []⟩
def d_House_init : He.DefD := ⟨("House", some "__init__"), "__init__", "House.__init__", defArgs s_House_init, defBody s_House_init, defScope s_House_init, [], []⟩
def d_House_set_day : He.DefD := ⟨("House", some "set_day"), "set_day", "House.set_day", defArgs s_House_set_day, defBody s_House_set_day, defScope s_House_set_day, [], []⟩
def d_House_refuse_by_day : He.DefD := ⟨("House", some "refuse_by_day"), "refuse_by_day", "House.refuse_by_day", defArgs s_House_refuse_by_day, defBody s_House_refuse_by_day, defScope s_House_refuse_by_day, [], []⟩
def d_House_refuse_no_hand : He.DefD := ⟨("House", some "refuse_no_hand"), "refuse_no_hand", "House.refuse_no_hand", defArgs s_House_refuse_no_hand, defBody s_House_refuse_no_hand, defScope s_House_refuse_no_hand, [], []⟩
def d_House_bring : He.DefD := ⟨("House", some "bring"), "bring", "House.bring", defArgs s_House_bring, defBody s_House_bring, defScope s_House_bring, [], []⟩
def d_House_drop : He.DefD := ⟨("House", some "drop"), "drop", "House.drop", defArgs s_House_drop, defBody s_House_drop, defScope s_House_drop, [], []⟩
def d_House_files : He.DefD := ⟨("House", some "files"), "files", "House.files", defArgs s_House_files, defBody s_House_files, defScope s_House_files, [], []⟩
def d_House_day : He.DefD := ⟨("House", some "day"), "day", "House.day", defArgs s_House_day, defBody s_House_day, defScope s_House_day, [], [("spares", .int 0)]⟩
def d_House_next_number : He.DefD := ⟨("House", some "next_number"), "next_number", "House.next_number", defArgs s_House_next_number, defBody s_House_next_number, defScope s_House_next_number, [], []⟩
def d_House_call : He.DefD := ⟨("House", some "call"), "call", "House.call", defArgs s_House_call, defBody s_House_call, defScope s_House_call, [], []⟩
def d_House_away : He.DefD := ⟨("House", some "away"), "away", "House.away", defArgs s_House_away, defBody s_House_away, defScope s_House_away, [], []⟩
def d_House_home : He.DefD := ⟨("House", some "home"), "home", "House.home", defArgs s_House_home, defBody s_House_home, defScope s_House_home, [], []⟩
def d_House_night : He.DefD := ⟨("House", some "night"), "night", "House.night", defArgs s_House_night, defBody s_House_night, defScope s_House_night, [], []⟩
def d_House_heard : He.DefD := ⟨("House", some "heard"), "heard", "House.heard", defArgs s_House_heard, defBody s_House_heard, defScope s_House_heard, [], []⟩
def d_House_weights_of : He.DefD := ⟨("House", some "weights_of"), "weights_of", "House.weights_of", defArgs s_House_weights_of, defBody s_House_weights_of, defScope s_House_weights_of, [], []⟩
def d_House_pieces : He.DefD := ⟨("House", some "pieces"), "pieces", "House.pieces", defArgs s_House_pieces, defBody s_House_pieces, defScope s_House_pieces, [], []⟩
def d_House_knows : He.DefD := ⟨("House", some "knows"), "knows", "House.knows", defArgs s_House_knows, defBody s_House_knows, defScope s_House_knows, [], []⟩
def d_law_pot : He.DefD := ⟨("_law_pot", none), "_law_pot", "_law_pot", defArgs s_law_pot, defBody s_law_pot, defScope s_law_pot, [], []⟩
def d_law_take : He.DefD := ⟨("_law_take", none), "_law_take", "_law_take", defArgs s_law_take, defBody s_law_take, defScope s_law_take, [], []⟩
def d_law_of : He.DefD := ⟨("_law_of", none), "_law_of", "_law_of", defArgs s_law_of, defBody s_law_of, defScope s_law_of, [], []⟩
def d_law_lots : He.DefD := ⟨("_law_lots", none), "_law_lots", "_law_lots", defArgs s_law_lots, defBody s_law_lots, defScope s_law_lots, [], []⟩
def d_law_leaders : He.DefD := ⟨("_law_leaders", none), "_law_leaders", "_law_leaders", defArgs s_law_leaders, defBody s_law_leaders, defScope s_law_leaders, [], []⟩
def d_law_made : He.DefD := ⟨("_law_made", none), "_law_made", "_law_made", defArgs s_law_made, defBody s_law_made, defScope s_law_made, [], []⟩
def d_law_files : He.DefD := ⟨("_law_files", none), "_law_files", "_law_files", defArgs s_law_files, defBody s_law_files, defScope s_law_files, [], []⟩
def d_law_third : He.DefD := ⟨("_law_third", none), "_law_third", "_law_third", defArgs s_law_third, defBody s_law_third, defScope s_law_third, [], []⟩
def d_law_alike : He.DefD := ⟨("_law_alike", none), "_law_alike", "_law_alike", defArgs s_law_alike, defBody s_law_alike, defScope s_law_alike, [], []⟩
def d_law : He.DefD := ⟨("law", none), "law", "law", defArgs s_law, defBody s_law, defScope s_law, [], []⟩
def d_shelf_shelves : He.DefD := ⟨("shelf_shelves", none), "shelf", "shelf", defArgs s_shelf, defBody s_shelf, defScope s_shelf, [], []⟩
def fnP0 : List He.DefD := [d_is_whole, d_choose, d_lot_at, d_number_of, d_lots, d_is_prime, d_is_file, d_piece, d_is_number, d_is_wishes, d_wished, d_first_wishers, d_leaders, d_plain_hands, d_made, d_made_with, d_next_hand, d_made_at, d_sign_of, d_sign, d_without, d_with_hand, d_terms, d_cry, d_made_lots, d_cries, d_inverse, d_lessened, d_Solving_init, d_Solving_clear]
def fnP1 : List He.DefD := [d_Solving_others_in, d_Solving_is_single, d_Solving_behind, d_weights_at, d_weighed_sum, d_place_weights, d_spare, d_with_spares, d_has, d_shelf, d_own_number, d_lacked, d_row_of, d_known_by, d_is_within, d_may_be_spares, d_Day_init, d_House_init, d_House_set_day, d_House_refuse_by_day, d_House_refuse_no_hand, d_House_bring, d_House_drop, d_House_files, d_House_day, d_House_next_number, d_House_call, d_House_away, d_House_home, d_House_night]
def fnP2 : List He.DefD := [d_House_heard, d_House_weights_of, d_House_pieces, d_House_knows, d_law_pot, d_law_take, d_law_of, d_law_lots, d_law_leaders, d_law_made, d_law_files, d_law_third, d_law_alike, d_law, d_shelf_shelves]
def fn : List He.DefD := fnP0 ++ fnP1 ++ fnP2
def faP0 : List He.Fa := [.glo "is_whole", .glo "choose", .glo "lot_at", .glo "number_of", .glo "lots", .glo "is_prime", .glo "is_file", .glo "piece", .glo "is_number", .glo "is_wishes", .glo "wished", .glo "first_wishers", .glo "leaders", .glo "plain_hands", .glo "made", .glo "made_with", .glo "next_hand", .glo "made_at", .glo "sign_of", .glo "sign", .glo "without", .glo "with_hand", .glo "terms", .glo "cry", .glo "made_lots", .glo "cries", .glo "inverse", .glo "lessened", .glo "weights_at", .glo "weighed_sum"]
def faP1 : List He.Fa := [.glo "place_weights", .glo "spare", .glo "with_spares", .glo "has", .glo "shelf", .glo "own_number", .glo "lacked", .glo "row_of", .glo "known_by", .glo "is_within", .glo "may_be_spares", .glo "_law_pot", .glo "_law_take", .glo "_law_of", .glo "_law_lots", .glo "_law_leaders", .glo "_law_made", .glo "_law_files", .glo "_law_third", .glo "_law_alike", .glo "law", .glo "shelf_shelves", .glo "Solving", .glo "Day", .glo "House", .free "isinstance", .free "int", .free "bool", .free "tuple", .free "len"]
def faP2 : List He.Fa := [.free "all", .free "any", .free "min", .free "max", .free "range", .free "sorted", .free "enumerate", .free "zip", .free "sum", .free "abs", .free "list", .free "repr", .int "MOST_TOLD" 2000, .int "MOST_MADE" 2000, .int "MOST_HANDS" 6, .int "MOST_SPARES" 1000, .int "P_END" 1000000000, .cls "Solving", .mkr "Solving", .noat "Solving" "field", .noat "Solving" "width", .noat "Solving" "lines", .noat "Solving" "line_of", .cls "Day", .mkr "Day", .noat "Day" "day_wishes", .noat "Day" "day_spares", .noat "Day" "day_files", .noat "Day" "day_heard", .cls "House"]
def faP3 : List He.Fa := [.mkr "House", .noat "House" "house_hands", .noat "House" "house_t", .noat "House" "house_p", .noat "House" "house_next", .noat "House" "house_files", .noat "House" "house_away", .noat "House" "house_by_day", .noat "House" "house_day", .noat "House" "house_cries", .meth "Solving" "clear", .meth "Solving" "others_in", .meth "Solving" "is_single", .meth "Solving" "behind", .meth "House" "set_day", .meth "House" "refuse_by_day", .meth "House" "refuse_no_hand", .meth "House" "bring", .meth "House" "drop", .meth "House" "files", .meth "House" "day", .meth "House" "next_number", .meth "House" "call", .meth "House" "away", .meth "House" "home", .meth "House" "night", .meth "House" "heard", .meth "House" "weights_of", .meth "House" "pieces", .meth "House" "knows"]
def fa : List He.Fa := faP0 ++ faP1 ++ faP2 ++ faP3
end Lk

/-! LkHead -/
set_option Elab.async false
set_option linter.all false
set_option maxRecDepth 100000
set_option maxHeartbeats 0
/-! The head: the top run once. -/
namespace Lk
open PySem PySem.Spec PyProof.Rows L2
def looseP0 : List PySem.Str := ["_wall", "NotSo", "Gone", "TooMany", "NoWish", "BadHouse", "BadFile", "BadWishes", "NoSpares", "ByDay", "ByNight", "NoNumber", "NoFile", "NoHand", "Over", "MOST_TOLD", "is_whole", "choose", "lot_at", "number_of", "lots", "is_prime", "is_file", "piece", "is_number", "is_wishes", "wished", "first_wishers", "leaders", "plain_hands"]
def looseP1 : List PySem.Str := ["made", "made_with", "next_hand", "made_at", "sign_of", "sign", "without", "with_hand", "MOST_MADE", "terms", "cry", "made_lots", "cries", "inverse", "lessened", "Solving", "weights_at", "weighed_sum", "place_weights", "spare", "with_spares", "has", "shelf", "shelf_shelves", "own_number", "lacked", "row_of", "known_by", "MOST_HANDS", "MOST_SPARES"]
def looseP2 : List PySem.Str := ["P_END", "is_within", "may_be_spares", "Day", "House", "_law_pot", "_law_take", "_law_of", "_law_lots", "_law_leaders", "_law_made", "_law_files", "_law_third", "_law_alike"]
def loose : List PySem.Str := looseP0 ++ looseP1 ++ looseP2
abbrev R : PySem.W.OpenRow := PySem.W.OpenLaw.row PySem.Challenge.rw_lackcry_k95_whole_what_one_hears_alone
abbrev hk : PySem.W.Hook := He.hookD 4 fa fn
def ob (s : PySem.W.SharedT) : He.AlD := He.obsDG 4 fa fn (HandSHeadRun.getT s)
theorem ob_eq (s : PySem.W.SharedT) : ob s = hk.obs s.abs := He.obsDG_eq (HandSHeadRun.getT_eq s)
theorem run (w : World) : HandSHeadRun.RunEq R (PySem.W.view R.prog [87]) hk ob 12000 loose w := by
  intro os
  kernel_rfl
end Lk

/-! LkE -/
set_option Elab.async false
set_option linter.all false
set_option maxRecDepth 100000
set_option maxHeartbeats 4000000
set_option autoImplicit false
/-! A layer of my own over the hand layer: what an expression comes to, by values of Lean's own types. -/
namespace Lk
open PySem PySem.Spec PyProof.Rows L2

/-! ### heaps -/
def KeepT (H H' : Hp) : Prop := ∀ b xs, H b = some (.tup xs) → H' b = some (.tup xs)
theorem KeepT.refl (H : Hp) : KeepT H H := fun _ _ h => h
theorem KeepT.trans {H H1 H2 : Hp} (a : KeepT H H1) (b : KeepT H1 H2) : KeepT H H2 := fun c xs h => b c xs (a c xs h)
theorem keepT {H H' : Hp} (h : Same H H') : KeepT H H' := fun b xs e => h b _ e
theorem Same.new {H : Hp} {p : Addr} {o : HO} (h : H p = none) : Same H (upd H p o) := fun b u e => by
  rw [upd_ne (ne_of_none e h)]
  exact e
/-- what is new in H' behind H, and the tuples -/
def cut (H H' : Hp) : Hp := fun b => match H b with
  | none => H' b
  | some (.tup xs) => some (.tup xs)
  | some _ => none
theorem cut_some {H H' : Hp} (s : Same H H') : Same (cut H H') H' := fun b o e => by
  unfold cut at e
  cases h : H b with
  | none => rw [h] at e; exact e
  | some u =>
    rw [h] at e
    cases u <;> first
      | (cases e; done)
      | (cases e; exact s b _ h)
theorem cut_mono {H H1 H2 : Hp} (s : Same H1 H2) : Same (cut H H1) (cut H H2) := fun b o e => by
  unfold cut at e ⊢
  cases h : H b with
  | none => rw [h] at e; exact s b o e
  | some u =>
    rw [h] at e
    cases u <;> exact e
theorem cut_anti {H H' H1 : Hp} (s : Same H' H) (s1 : Same H H1) : Same (cut H H1) (cut H' H1) := fun b o e => by
  unfold cut at e ⊢
  cases h : H b with
  | none =>
    rw [h] at e
    rw [Same.free s h]
    exact e
  | some u =>
    rw [h] at e
    cases h' : H' b with
    | none =>
      cases u <;> first
        | (cases e; done)
        | (cases e; exact s1 b _ h)
    | some u' =>
      have := s b u' h'
      rw [h] at this
      cases this
      exact e
theorem cut_new {H H' : Hp} {p : Addr} {o : HO} (h : H p = none) (e : H' p = some o) : cut H H' p = some o := by
  unfold cut
  rw [h]
  exact e

/-! ### values of Lean's types as Python's -/
class Ty (α : Type) where
  r : α → V → Hp → Prop
  mono : ∀ {a v H H'}, Same H H' → r a v H → r a v H'
class Im (α : Type) extends Ty α where
  keep : ∀ {a v H H'}, KeepT H H' → r a v H → r a v H'
open Ty (r)
/-- several -/
def A2 {α : Type} [Ty α] (l : List α) (xs : List V) (H : Hp) : Prop := Paired (fun a v => r a v H) l xs
theorem A2.mono {α : Type} [Ty α] {l : List α} {xs : List V} {H H' : Hp} (s : Same H H') (h : A2 l xs H) : A2 l xs H' := Paired.mapP h fun _ _ => Ty.mono s
theorem A2.keep {α : Type} [Im α] {l : List α} {xs : List V} {H H' : Hp} (s : KeepT H H') (h : A2 l xs H) : A2 l xs H' := Paired.mapP h fun _ _ => Im.keep s
theorem A2.len {α : Type} [Ty α] {l : List α} {xs : List V} {H : Hp} (h : A2 l xs H) : l.length = xs.length := Paired.length h
theorem Paired.get1 {α β : Type} {F : α → β → Prop} : ∀ {l : List α} {m : List β} {i : Nat} {a : α}, Paired F l m → l[i]? = some a → ∃ b, m[i]? = some b ∧ F a b
  | _, _, _, _, .nil, e => by simp at e
  | _, _, 0, _, .cons f _, e => by simp at e; subst e; exact ⟨_, rfl, f⟩
  | _, _, i + 1, a, .cons _ t, e => by
    obtain ⟨b, h1, h2⟩ := Paired.get1 (i := i) (a := a) t (by simpa using e)
    exact ⟨b, by simpa using h1, h2⟩
theorem Paired.get2 {α β : Type} {F : α → β → Prop} : ∀ {l : List α} {m : List β} {i : Nat} {b : β}, Paired F l m → m[i]? = some b → ∃ a, l[i]? = some a ∧ F a b
  | _, _, _, _, .nil, e => by simp at e
  | _, _, 0, _, .cons f _, e => by simp at e; subst e; exact ⟨_, rfl, f⟩
  | _, _, i + 1, b, .cons _ t, e => by
    obtain ⟨a, h1, h2⟩ := Paired.get2 (i := i) (b := b) t (by simpa using e)
    exact ⟨a, by simpa using h1, h2⟩
theorem Paired.app {α β : Type} {F : α → β → Prop} : ∀ {l l' : List α} {m m' : List β}, Paired F l m → Paired F l' m' → Paired F (l ++ l') (m ++ m')
  | _, _, _, _, .nil, h => h
  | _, _, _, _, .cons f t, h => .cons f (Paired.app t h)

instance : Im Int where
  r i v _ := v = .int i
  mono _ h := h
  keep _ h := h
instance : Im Bool where
  r i v _ := v = .bl i
  mono _ h := h
  keep _ h := h
instance : Im Unit where
  r _ v _ := v = .non
  mono _ h := h
  keep _ h := h
instance : Im Str where
  r i v _ := v = .str i
  mono _ h := h
  keep _ h := h
def rOpt {α : Type} [Ty α] (o : Option α) (v : V) (H : Hp) : Prop := match o with
  | none => v = .non
  | some a => r a v H
instance {α : Type} [Im α] : Im (Option α) where
  r := rOpt
  mono {a v H H'} s h := by
    cases a with
    | none => exact h
    | some a => exact Ty.mono (α := α) s h
  keep {a v H H'} s h := by
    cases a with
    | none => exact h
    | some a => exact Im.keep (α := α) s h
/-- a tuple -/
instance {α : Type} [Im α] : Im (List α) where
  r l v H := ∃ p xs, v = .ref p ∧ H p = some (.tup xs) ∧ A2 l xs H
  mono s := fun ⟨p, xs, e, h, a⟩ => ⟨p, xs, e, s p _ h, a.mono s⟩
  keep s := fun ⟨p, xs, e, h, a⟩ => ⟨p, xs, e, s p _ h, a.keep s⟩
instance {α β : Type} [Im α] [Im β] : Im (α × β) where
  r l v H := ∃ p x y, v = .ref p ∧ H p = some (.tup [x, y]) ∧ r l.1 x H ∧ r l.2 y H
  mono s := fun ⟨p, x, y, e, h, a, b⟩ => ⟨p, x, y, e, s p _ h, Ty.mono s a, Ty.mono s b⟩
  keep s := fun ⟨p, x, y, e, h, a, b⟩ => ⟨p, x, y, e, s p _ h, Im.keep s a, Im.keep s b⟩
structure T3 (α β γ : Type) where
  a : α
  b : β
  c : γ
instance {α β γ : Type} [Im α] [Im β] [Im γ] : Im (T3 α β γ) where
  r l v H := ∃ p x y z, v = .ref p ∧ H p = some (.tup [x, y, z]) ∧ r l.a x H ∧ r l.b y H ∧ r l.c z H
  mono s := fun ⟨p, x, y, z, e, h, a, b, c⟩ => ⟨p, x, y, z, e, s p _ h, Ty.mono s a, Ty.mono s b, Ty.mono s c⟩
  keep s := fun ⟨p, x, y, z, e, h, a, b, c⟩ => ⟨p, x, y, z, e, s p _ h, Im.keep s a, Im.keep s b, Im.keep s c⟩
/-- a list -/
structure Lst (α : Type) where
  l : List α
instance {α : Type} [Ty α] : Ty (Lst α) where
  r l v H := ∃ p xs, v = .ref p ∧ H p = some (.lst xs) ∧ A2 l.l xs H
  mono s := fun ⟨p, xs, e, h, a⟩ => ⟨p, xs, e, s p _ h, a.mono s⟩
/-- a dict by ints -/
structure Dic (α : Type) where
  l : List (Int × α)
def KVs {α : Type} [Ty α] (l : List (Int × α)) (kvs : List (Key × V)) (H : Hp) : Prop := Paired (fun (e : Int × α) (kv : Key × V) => kv.1 = .inl e.1 ∧ r e.2 kv.2 H) l kvs
theorem KVs.mono {α : Type} [Ty α] {l : List (Int × α)} {kvs : List (Key × V)} {H H' : Hp} (s : Same H H') (h : KVs l kvs H) : KVs l kvs H' := Paired.mapP h fun _ _ q => ⟨q.1, Ty.mono s q.2⟩
theorem KVs.keep {α : Type} [Im α] {l : List (Int × α)} {kvs : List (Key × V)} {H H' : Hp} (s : KeepT H H') (h : KVs l kvs H) : KVs l kvs H' := Paired.mapP h fun _ _ q => ⟨q.1, Im.keep s q.2⟩
instance {α : Type} [Ty α] : Ty (Dic α) where
  r l v H := ∃ p kvs, v = .ref p ∧ H p = some (.dK kvs) ∧ KVs l.l kvs H
  mono s := fun ⟨p, xs, e, h, a⟩ => ⟨p, xs, e, s p _ h, a.mono s⟩
/-- a dict by pairs of ints, of ints -/
structure DiT where
  l : List ((Int × Int) × Int)
def dtV (l : List ((Int × Int) × Int)) : List (List Key × V) := l.map fun e => ([.inl e.1.1, .inl e.1.2], .int e.2)
instance : Ty DiT where
  r l v H := ∃ p, v = .ref p ∧ H p = some (.dT (dtV l.l))
  mono s := fun ⟨p, e, h⟩ => ⟨p, e, s p _ h⟩

/-! ### what comes of an expression: from the heap ahead of it, the value, the heap behind it -/
structure Res where
  p : Hp → V → Hp → Prop
  mono : ∀ {H v H1 H2}, Same H H1 → Same H1 H2 → p H v H1 → p H v H2
  anti : ∀ {H' H v H1}, Same H' H → Same H H1 → p H v H1 → p H' v H1
def Val {α : Type} [Ty α] (a : α) : Res where
  p _ v H' := r a v H'
  mono _ s h := Ty.mono s h
  anti _ _ h := h
/-- all of it made anew -/
def New {α : Type} [Ty α] (a : α) : Res where
  p H v H' := r a v (cut H H')
  mono _ s h := Ty.mono (cut_mono s) h
  anti s s1 h := Ty.mono (cut_anti s s1) h
/-- an old thing -/
def Old {α : Type} [Ty α] (H0 : Hp) (a : α) : Res where
  p _ v _ := r a v H0
  mono _ _ h := h
  anti _ _ h := h
/-- something of which this is true -/
def Any (φ : V → Prop) : Res where
  p _ v _ := φ v
  mono _ _ h := h
  anti _ _ h := h

/-! ### slots -/
inductive Slot : Type 1
  | no
  | im {α : Type} [Im α] (a : α)
  | old {α : Type} [Ty α] (a : α)
  | own {α : Type} [Im α] (l : List α)
  | ownK {α : Type} [Im α] (l : List (Int × α))
  | ownT (l : List ((Int × Int) × Int))
def Slot.isOwn : Slot → Prop
  | @Slot.own _ _ _ => True
  | @Slot.ownK _ _ _ => True
  | .ownT _ => True
  | _ => False
def Slot.ok (H0 : Hp) : Slot → V → Hp → Prop
  | .no, _, _ => True
  | @Slot.im _ _ a, v, H => r a v H
  | @Slot.old _ _ a, v, _ => r a v H0
  | @Slot.own _ _ l, v, H => ∃ p xs, v = .ref p ∧ H0 p = none ∧ H p = some (.lst xs) ∧ A2 l xs H
  | @Slot.ownK _ _ l, v, H => ∃ p kvs, v = .ref p ∧ H0 p = none ∧ H p = some (.dK kvs) ∧ KVs l kvs H
  | .ownT l, v, H => ∃ p, v = .ref p ∧ H0 p = none ∧ H p = some (.dT (dtV l))
def Slot.at (H0 : Hp) (s : Slot) (o : Option V) (H : Hp) : Prop := match s with
  | .no => True
  | s => ∃ v, o = some v ∧ s.ok H0 v H
theorem Slot.ok_ext {H0 H H' : Hp} {s : Slot} {v : V} (e : Same H H') (h : s.ok H0 v H) : s.ok H0 v H' := by
  cases s with
  | no => trivial
  | @im α _ a => exact Ty.mono (α := α) e h
  | old a => exact h
  | own l => obtain ⟨p, xs, e1, e2, e3, e4⟩ := h; exact ⟨p, xs, e1, e2, e _ _ e3, e4.mono e⟩
  | ownK l => obtain ⟨p, xs, e1, e2, e3, e4⟩ := h; exact ⟨p, xs, e1, e2, e _ _ e3, e4.mono e⟩
  | ownT l => obtain ⟨p, e1, e2, e3⟩ := h; exact ⟨p, e1, e2, e _ _ e3⟩
theorem Slot.at_some {H0 H : Hp} {s : Slot} {v : V} (h : s.ok H0 v H) : s.at H0 (some v) H := by
  cases s <;> first
    | trivial
    | exact ⟨v, rfl, h⟩
theorem Slot.at_get {H0 H : Hp} {s : Slot} {o : Option V} (h : s.at H0 o H) (n : s ≠ .no) : ∃ v, o = some v ∧ s.ok H0 v H := by
  cases s <;> first
    | exact absurd rfl n
    | exact h
theorem Slot.at_ext {H0 H H' : Hp} {s : Slot} {o : Option V} (e : Same H H') (h : s.at H0 o H) : s.at H0 o H' := by
  cases s <;> first
    | trivial
    | (obtain ⟨v, rfl, q⟩ := h; exact ⟨v, rfl, Slot.ok_ext e q⟩)

/-- the slots hold what they are said to hold; all that H0 has stays -/
structure At (H0 : Hp) (G : List Slot) (σ : L2.St) (H : Hp) : Prop where
  len : σ.length = G.length
  at_ : ∀ (i : Nat) (s : Slot), G[i]? = some s → ∃ o, σ[i]? = some o ∧ s.at H0 o H
  apart : ∀ (i j : Nat) (s t : Slot) (v : V), G[i]? = some s → G[j]? = some t → s.isOwn → t.isOwn → σ[i]? = some (some v) → σ[j]? = some (some v) → i = j
  same : Same H0 H
theorem At.ext {H0 H H' : Hp} {G : List Slot} {σ : L2.St} (h : At H0 G σ H) (e : Same H H') : At H0 G σ H' :=
  ⟨h.len, fun i s q => let ⟨o, e1, e2⟩ := h.at_ i s q; ⟨o, e1, Slot.at_ext e e2⟩, h.apart, Same.trans h.same e⟩
theorem At.get {H0 H : Hp} {G : List Slot} {σ : L2.St} {i : Nat} {s : Slot} (h : At H0 G σ H) (e : G[i]? = some s) (n : s ≠ .no) : ∃ v, σ[i]? = some (some v) ∧ s.ok H0 v H := by
  obtain ⟨o, e1, e2⟩ := h.at_ i s e
  obtain ⟨v, e3, q⟩ := Slot.at_get e2 n
  exact ⟨v, by rw [e1, e3], q⟩

/-! ### judgements -/
def tE (X : Cx) (e : Expr) : TE := fun σ H Q => ∀ pins s, Inv X pins σ H s → wpAny (model X.prog X.w) X.A (eval e X.env) (EP X pins σ Q) X.xe s
def tT (X : Cx) (e : Expr) : TT := fun σ H Q => ∀ pins s, Inv X pins σ H s → wpAny (model X.prog X.w) X.A (isTrue e X.env (eval e X.env)) (TP X pins σ Q) X.xe s
def tB (X : Cx) (st : List Stmt) : TS := fun D σ H => ∀ pins s, Inv X pins σ H s → wpAny (model X.prog X.w) X.A (execs st X.env) (SP X pins D) X.xe s
def tS (X : Cx) (st : Stmt) : TS := fun D σ H => ∀ pins s, Inv X pins σ H s → wpAny (model X.prog X.w) X.A (exec st X.env) (SP X pins D) X.xe s
theorem pe_in {X : Cx} {e : Expr} : PE X e (tE X e) := ⟨fun pins s _ _ _ I h => h pins s I⟩
theorem pt_in {X : Cx} {e : Expr} : PT X e (tT X e) := ⟨fun pins s _ _ _ I h => h pins s I⟩
theorem ps_in {X : Cx} {e : Stmt} : PS X e (tS X e) := ⟨fun pins s _ _ _ I h => h pins s I⟩
theorem pss_in {X : Cx} {e : List Stmt} : PSs X e (tB X e) := ⟨fun pins s _ _ _ I h => h pins s I⟩
theorem pe_out {X : Cx} {e : Expr} {t : TE} {σ : L2.St} {H : Hp} {Q : VK} (p : PE X e t) (h : t σ H Q) : tE X e σ H Q := fun pins s I => p.run pins s σ H Q I h
theorem pt_out {X : Cx} {e : Expr} {t : TT} {σ : L2.St} {H : Hp} {Q : Bool → Hp → Prop} (p : PT X e t) (h : t σ H Q) : tT X e σ H Q := fun pins s I => p.run pins s σ H Q I h
theorem ps_out {X : Cx} {e : Stmt} {t : TS} {σ : L2.St} {H : Hp} {D : Ends} (p : PS X e t) (h : t D σ H) : tS X e D σ H := fun pins s I => p.run pins s σ H D I h
theorem pss_out {X : Cx} {e : List Stmt} {t : TS} {σ : L2.St} {H : Hp} {D : Ends} (p : PSs X e t) (h : t D σ H) : tB X e D σ H := fun pins s I => p.run pins s σ H D I h

/-- e comes to ρ -/
def E (X : Cx) (H0 : Hp) (G : List Slot) (e : Expr) (ρ : Res) : Prop := ∀ σ H Q, At H0 G σ H → (∀ v H', Same H H' → ρ.p H v H' → Q v H') → tE X e σ H Q
def ET (X : Cx) (H0 : Hp) (G : List Slot) (e : Expr) (b : Bool) : Prop := ∀ σ H Q, At H0 G σ H → (∀ H', Same H H' → Q b H') → tT X e σ H Q
/-- arguments -/
structure Ars where
  p : List V → Hp → Prop
  mono : ∀ {v H1 H2}, Same H1 H2 → p v H1 → p v H2
def Ars.nil : Ars where
  p vs _ := vs = []
  mono _ h := h
def Ars.cons {α : Type} [Ty α] (a : α) (R : Ars) : Ars where
  p vs H1 := ∃ v ws, vs = v :: ws ∧ r a v H1 ∧ R.p ws H1
  mono s := fun ⟨v, ws, e, h1, h2⟩ => ⟨v, ws, e, Ty.mono s h1, R.mono s h2⟩
def tA (X : Cx) (es : List Expr) : TA := fun σ H Q => ∀ pos pins s, Inv X pins σ H s → wpAny (model X.prog X.w) X.A (spliced (backTo pos (starEach es X.env))) (AP X pins σ Q) X.xe s
theorem pa_in {X : Cx} {es : List Expr} : PA X es (tA X es) := ⟨fun pos pins s _ _ _ I h => h pos pins s I⟩
theorem pa_out {X : Cx} {es : List Expr} {t : TA} {σ : L2.St} {H : Hp} {Q : List V → Hp → Prop} (p : PA X es t) (h : t σ H Q) : tA X es σ H Q := fun pos pins s I => p.run pos pins s σ H Q I h
def EA (X : Cx) (H0 : Hp) (G : List Slot) (es : List Expr) (R : Ars) : Prop := ∀ σ H Q, At H0 G σ H → (∀ vs H', Same H H' → R.p vs H' → Q vs H') → tA X es σ H Q
/-- a block -/
def B (X : Cx) (H0 : Hp) (G : List Slot) (st : List Stmt) (D : Ends) : Prop := ∀ σ H, At H0 G σ H → tB X st D σ H

section
variable {X : Cx} {H0 : Hp} {G : List Slot} {e a b c : Expr} {es : List Expr} {pos : Pos} {ρ : Res} {R : Ars}
theorem E.weak {ρ' : Res} (h : E X H0 G e ρ) (k : ∀ H v H', Same H H' → ρ.p H v H' → ρ'.p H v H') : E X H0 G e ρ' := fun σ H Q h0 q => h σ H Q h0 fun v H' s p => q v H' s (k H v H' s p)
theorem E.val {α : Type} [Ty α] {x : α} (h : E X H0 G e (New x)) : E X H0 G e (Val x) := h.weak fun _ _ _ s p => Ty.mono (cut_some s) p
theorem keep_cut {H H1 : Hp} (s : Same H H1) : KeepT H1 (cut H H1) := fun b xs e => by
  unfold cut
  cases h : H b with
  | none => exact e
  | some u =>
    have := s b u h
    rw [e] at this
    cases this
    rfl
/-- what never changes may be called new -/
theorem E.fresh {α : Type} [Im α] {x : α} (h : E X H0 G e (Val x)) : E X H0 G e (New x) := h.weak fun _ _ _ s p => Im.keep (keep_cut s) p
theorem E.ofOld {α : Type} [Ty α] {x : α} (h : E X H0 G e (Old H0 x)) : E X H0 G e (Val x) := fun σ H Q h0 q => h σ H Q h0 fun v H' s p => q v H' s (Ty.mono (Same.trans h0.same s) p)
theorem ea_nil : EA X H0 G [] .nil := fun σ H Q _ q => pa_out pa_nil (q [] H (Same.refl H) rfl)
theorem ea_cons {α : Type} [Ty α] {x : α} (h : E X H0 G e (Val x)) (hr : EA X H0 G es R) (hs : starEach (e :: es) X.env = (false, eval e X.env) :: starEach es X.env := by rfl) : EA X H0 G (e :: es) (.cons x R) := fun σ H Q h0 q =>
  pa_out (pa_cons pe_in pa_in hs) (h σ H _ h0 fun v H1 s1 p1 => hr σ H1 _ (h0.ext s1) fun ws H2 s2 p2 => q _ H2 (Same.trans s1 s2) ⟨v, ws, rfl, Ty.mono s2 p1, p2⟩)

/-! ### names, constants -/
theorem e_var (i : Nat) {α : Type} [Im α] {x : α} {n : Str} (hG : G[i]? = some (.im x) := by rfl) (hN : X.N[i]? = some n := by rfl) (hv : Vis X.env.scope n := by first | exact Or.inl rfl | exact Or.inr (Or.inl rfl) | exact Or.inr (Or.inr rfl))
    (hd : (n == ("__debug__" : Str)) = false := by decide) (hcd : (n == ("__classdict__" : Str)) = false := by decide) : E X H0 G (.Name n pos) (Val x) := fun σ H Q h0 q => by
  obtain ⟨v, e1, e2⟩ := h0.get hG (by intro h; cases h)
  exact pe_out (pe_var hN hv hd hcd) ⟨v, e1, q v H (Same.refl H) e2⟩
theorem e_old (i : Nat) {α : Type} [Ty α] {x : α} {n : Str} (hG : G[i]? = some (.old x) := by rfl) (hN : X.N[i]? = some n := by rfl) (hv : Vis X.env.scope n := by first | exact Or.inl rfl | exact Or.inr (Or.inl rfl) | exact Or.inr (Or.inr rfl))
    (hd : (n == ("__debug__" : Str)) = false := by decide) (hcd : (n == ("__classdict__" : Str)) = false := by decide) : E X H0 G (.Name n pos) (Old H0 x) := fun σ H Q h0 q => by
  obtain ⟨v, e1, e2⟩ := h0.get hG (by intro h; cases h)
  exact pe_out (pe_var hN hv hd hcd) ⟨v, e1, q v H (Same.refl H) e2⟩
theorem e_own (i : Nat) {α : Type} [Im α] {x : List α} {n : Str} (hG : G[i]? = some (.own x) := by rfl) (hN : X.N[i]? = some n := by rfl) (hv : Vis X.env.scope n := by first | exact Or.inl rfl | exact Or.inr (Or.inl rfl) | exact Or.inr (Or.inr rfl))
    (hd : (n == ("__debug__" : Str)) = false := by decide) (hcd : (n == ("__classdict__" : Str)) = false := by decide) : E X H0 G (.Name n pos) (Val (Lst.mk x)) := fun σ H Q h0 q => by
  obtain ⟨v, e1, p, xs, e2, _, e3, e4⟩ := h0.get hG (by intro h; cases h)
  exact pe_out (pe_var hN hv hd hcd) ⟨v, e1, q v H (Same.refl H) ⟨p, xs, e2, e3, e4⟩⟩
theorem e_ownK (i : Nat) {α : Type} [Im α] {x : List (Int × α)} {n : Str} (hG : G[i]? = some (.ownK x) := by rfl) (hN : X.N[i]? = some n := by rfl) (hv : Vis X.env.scope n := by first | exact Or.inl rfl | exact Or.inr (Or.inl rfl) | exact Or.inr (Or.inr rfl))
    (hd : (n == ("__debug__" : Str)) = false := by decide) (hcd : (n == ("__classdict__" : Str)) = false := by decide) : E X H0 G (.Name n pos) (Val (Dic.mk x)) := fun σ H Q h0 q => by
  obtain ⟨v, e1, p, xs, e2, _, e3, e4⟩ := h0.get hG (by intro h; cases h)
  exact pe_out (pe_var hN hv hd hcd) ⟨v, e1, q v H (Same.refl H) ⟨p, xs, e2, e3, e4⟩⟩
theorem e_ownT (i : Nat) {x : List ((Int × Int) × Int)} {n : Str} (hG : G[i]? = some (.ownT x) := by rfl) (hN : X.N[i]? = some n := by rfl) (hv : Vis X.env.scope n := by first | exact Or.inl rfl | exact Or.inr (Or.inl rfl) | exact Or.inr (Or.inr rfl))
    (hd : (n == ("__debug__" : Str)) = false := by decide) (hcd : (n == ("__classdict__" : Str)) = false := by decide) : E X H0 G (.Name n pos) (Val (DiT.mk x)) := fun σ H Q h0 q => by
  obtain ⟨v, e1, p, e2, _, e3⟩ := h0.get hG (by intro h; cases h)
  exact pe_out (pe_var hN hv hd hcd) ⟨v, e1, q v H (Same.refl H) ⟨p, e2, e3⟩⟩
theorem e_int {i : Int} {j : Nat} : E X H0 G (.Constant (.int i) j pos) (Val i) := fun σ H Q h0 q => pe_out pe_int (q _ H (Same.refl H) rfl)
theorem e_bl {i : Bool} {j : Nat} : E X H0 G (.Constant (.bool i) j pos) (Val i) := fun σ H Q h0 q => pe_out pe_bl (q _ H (Same.refl H) rfl)
theorem e_non {j : Nat} {α : Type} [Im α] : E X H0 G (.Constant .none j pos) (Val (none : Option α)) := fun σ H Q h0 q => pe_out pe_non (q _ H (Same.refl H) rfl)
theorem e_glob {n : Str} {i : Int} (hm : ∃ t, X.mg n = some (.int i t)) (hg : Gl X n := by rfl) (hd : (n == ("__debug__" : Str)) = false := by decide) : E X H0 G (.Name n pos) (Val i) := fun σ H Q h0 q => by
  obtain ⟨t, e⟩ := hm
  exact pe_out (pe_glob hg e (v := .int i) ⟨t, rfl⟩ hd) (q _ H (Same.refl H) rfl)

/-! ### operators -/
theorem e_op {α β : Type} [Ty α] [Ty β] {x : α} {y : β} {op : Operator} {rr : R2} (ho : OpR X (binaryOp op) rr) (hr : ∀ v w H Q, r x v H → r y w H → (∀ u H', Same H H' → ρ.p H u H' → Q u H') → rr v w H Q)
    (ha : E X H0 G a (Val x)) (hb : E X H0 G b (Val y)) : E X H0 G (.BinOp a op b pos) ρ := fun σ H Q h0 q =>
  pe_out (pe_op ho pe_in pe_in) (ha σ H _ h0 fun v H1 s1 p1 => hb σ H1 _ (h0.ext s1) fun w H2 s2 p2 => hr v w H2 Q (Ty.mono s2 p1) p2 fun u H3 s3 p3 => q u H3 (Same.trans (Same.trans s1 s2) s3) (ρ.anti (Same.trans s1 s2) s3 p3))
theorem e_cmp {α β : Type} [Ty α] [Ty β] {x : α} {y : β} {op : CmpOp} {rr : R2} (ho : OpR X (compareOp op) rr) (hr : ∀ v w H Q, r x v H → r y w H → (∀ u H', Same H H' → ρ.p H u H' → Q u H') → rr v w H Q)
    (ha : E X H0 G a (Val x)) (hb : E X H0 G b (Val y)) (hm : behindInMarks op b = false := by first | exact nomark _ | rfl) : E X H0 G (.Compare a [op] [b] pos) ρ := fun σ H Q h0 q =>
  pe_out (pe_cmpR ho pe_in pe_in hm) (ha σ H _ h0 fun v H1 s1 p1 => hb σ H1 _ (h0.ext s1) fun w H2 s2 p2 => hr v w H2 Q (Ty.mono s2 p1) p2 fun u H3 s3 p3 => q u H3 (Same.trans (Same.trans s1 s2) s3) (ρ.anti (Same.trans s1 s2) s3 p3))
theorem et_cmp {α β : Type} [Ty α] [Ty β] {x : α} {y : β} {k : Bool} {op : CmpOp} {rr : R2} (ho : OpR X (compareOp op) rr) (hr : ∀ v w H (Q : VK), r x v H → r y w H → (∀ H', Same H H' → Q (.bl k) H') → rr v w H Q)
    (ha : E X H0 G a (Val x)) (hb : E X H0 G b (Val y)) (hm : behindInMarks op b = false := by first | exact nomark _ | rfl) : ET X H0 G (.Compare a [op] [b] pos) k := fun σ H Q h0 q =>
  pt_out (pt_cmpR ho pe_in pe_in hm) (ha σ H _ h0 fun v H1 s1 p1 => hb σ H1 _ (h0.ext s1) fun w H2 s2 p2 => hr v w H2 _ (Ty.mono s2 p1) p2 fun H3 s3 => ⟨k, rfl, q H3 (Same.trans (Same.trans s1 s2) s3)⟩)
theorem rI_ok {C : Int → Int → Prop} {g : Int → Int → V} {α : Type} [Ty α] {z : α} {x y : Int} (hc : C x y) (hz : ∀ H, r z (g x y) H) : ∀ v w H Q, r x v H → r y w H → (∀ u H', Same H H' → (Val z).p H u H' → Q u H') → rI C g v w H Q :=
  fun v w H Q h1 h2 q => ⟨x, y, h1, h2, hc, q _ H (Same.refl H) (hz H)⟩
theorem rI0_ok {g : Int → Int → V} {α : Type} [Ty α] {z : α} {x y : Int} (hz : ∀ H, r z (g x y) H) : ∀ v w H Q, r x v H → r y w H → (∀ u H', Same H H' → (Val z).p H u H' → Q u H') → rI0 g v w H Q :=
  fun v w H Q h1 h2 q => ⟨x, y, h1, h2, q _ H (Same.refl H) (hz H)⟩
theorem rI0_t {g : Int → Int → V} {k : Bool} {x y : Int} (hz : g x y = .bl k) : ∀ v w H (Q : VK), r x v H → r y w H → (∀ H', Same H H' → Q (.bl k) H') → rI0 g v w H Q :=
  fun v w H Q h1 h2 q => ⟨x, y, h1, h2, by rw [hz]; exact q H (Same.refl H)⟩
variable {x y : Int}
theorem e_add (ha : E X H0 G a (Val x)) (hb : E X H0 G b (Val y)) : E X H0 G (.BinOp a .Add b pos) (Val (x + y)) := e_op op_add (rI0_ok fun _ => rfl) ha hb
theorem e_sub (ha : E X H0 G a (Val x)) (hb : E X H0 G b (Val y)) : E X H0 G (.BinOp a .Sub b pos) (Val (x - y)) := e_op op_sub (rI0_ok fun _ => rfl) ha hb
theorem e_mul (hc : CMul x y) (ha : E X H0 G a (Val x)) (hb : E X H0 G b (Val y)) : E X H0 G (.BinOp a .Mult b pos) (Val (x * y)) := e_op op_mul (rI_ok hc fun _ => rfl) ha hb
theorem e_mod (hc : 0 < y) (ha : E X H0 G a (Val x)) (hb : E X H0 G b (Val y)) : E X H0 G (.BinOp a .Mod b pos) (Val (x % y)) := e_op op_mod (rI_ok hc fun _ => rfl) ha hb
theorem e_fdiv (hc : CDiv x y) (ha : E X H0 G a (Val x)) (hb : E X H0 G b (Val y)) : E X H0 G (.BinOp a .FloorDiv b pos) (Val (x / y)) := e_op op_fdiv (rI_ok hc fun _ => rfl) ha hb
theorem e_neg {i : Int} (ha : E X H0 G a (Val i)) : E X H0 G (.UnaryOp .USub a pos) (Val (-i)) := fun σ H Q h0 q => pe_out (pe_un un_neg pe_in) (ha σ H _ h0 fun v H1 s1 p1 => ⟨i, p1, q _ H1 s1 rfl⟩)
theorem e_lt (ha : E X H0 G a (Val x)) (hb : E X H0 G b (Val y)) : E X H0 G (.Compare a [.Lt] [b] pos) (Val (decide (x < y))) := e_cmp op_lt (rI0_ok fun _ => rfl) ha hb
theorem e_le (ha : E X H0 G a (Val x)) (hb : E X H0 G b (Val y)) : E X H0 G (.Compare a [.LtE] [b] pos) (Val (decide (x ≤ y))) := e_cmp op_le (rI0_ok fun _ => rfl) ha hb
theorem e_gt (ha : E X H0 G a (Val x)) (hb : E X H0 G b (Val y)) : E X H0 G (.Compare a [.Gt] [b] pos) (Val (decide (y < x))) := e_cmp op_gt (rI0_ok fun _ => rfl) ha hb
theorem e_ge (ha : E X H0 G a (Val x)) (hb : E X H0 G b (Val y)) : E X H0 G (.Compare a [.GtE] [b] pos) (Val (decide (y ≤ x))) := e_cmp op_ge (rI0_ok fun _ => rfl) ha hb
theorem et_lt (ha : E X H0 G a (Val x)) (hb : E X H0 G b (Val y)) : ET X H0 G (.Compare a [.Lt] [b] pos) (decide (x < y)) := et_cmp op_lt (rI0_t rfl) ha hb
theorem et_le (ha : E X H0 G a (Val x)) (hb : E X H0 G b (Val y)) : ET X H0 G (.Compare a [.LtE] [b] pos) (decide (x ≤ y)) := et_cmp op_le (rI0_t rfl) ha hb
theorem et_gt (ha : E X H0 G a (Val x)) (hb : E X H0 G b (Val y)) : ET X H0 G (.Compare a [.Gt] [b] pos) (decide (y < x)) := et_cmp op_gt (rI0_t rfl) ha hb
theorem et_ge (ha : E X H0 G a (Val x)) (hb : E X H0 G b (Val y)) : ET X H0 G (.Compare a [.GtE] [b] pos) (decide (y ≤ x)) := et_cmp op_ge (rI0_t rfl) ha hb
theorem dV (x y : Int) : decide (V.int x = V.int y) = decide (x = y) := by
  by_cases h : x = y
  · rw [h]; simp
  · rw [decide_eq_false h, decide_eq_false (fun q => h (by injection q))]
theorem rEq_ok {g : Bool → Bool} : ∀ v w H (Q : VK), r x v H → r y w H → (∀ u H', Same H H' → (Val (decide (x = y))).p H u H' → Q u H') → rEq v w H Q := fun v w H Q h1 h2 q => by
  have h1 : v = .int x := h1
  have h2 : w = .int y := h2
  subst h1 h2
  exact ⟨rfl, q _ H (Same.refl H) (by rw [dV]; rfl)⟩
theorem e_eq (ha : E X H0 G a (Val x)) (hb : E X H0 G b (Val y)) : E X H0 G (.Compare a [.Eq] [b] pos) (Val (decide (x = y))) := e_cmp op_eq (fun v w H Q h1 h2 q => by
  have h1 : v = .int x := h1
  have h2 : w = .int y := h2
  subst h1 h2
  exact ⟨rfl, q _ H (Same.refl H) (by rw [dV]; rfl)⟩) ha hb
theorem e_ne (ha : E X H0 G a (Val x)) (hb : E X H0 G b (Val y)) : E X H0 G (.Compare a [.NotEq] [b] pos) (Val (!decide (x = y))) := e_cmp op_ne (fun v w H Q h1 h2 q => by
  have h1 : v = .int x := h1
  have h2 : w = .int y := h2
  subst h1 h2
  exact ⟨rfl, q _ H (Same.refl H) (by rw [dV]; rfl)⟩) ha hb
theorem et_eq (ha : E X H0 G a (Val x)) (hb : E X H0 G b (Val y)) : ET X H0 G (.Compare a [.Eq] [b] pos) (decide (x = y)) := et_cmp op_eq (fun v w H Q h1 h2 q => by
  have h1 : v = .int x := h1
  have h2 : w = .int y := h2
  subst h1 h2
  exact ⟨rfl, by rw [dV]; exact q H (Same.refl H)⟩) ha hb
theorem et_ne (ha : E X H0 G a (Val x)) (hb : E X H0 G b (Val y)) : ET X H0 G (.Compare a [.NotEq] [b] pos) (!decide (x = y)) := et_cmp op_ne (fun v w H Q h1 h2 q => by
  have h1 : v = .int x := h1
  have h2 : w = .int y := h2
  subst h1 h2
  exact ⟨rfl, by rw [dV]; exact q H (Same.refl H)⟩) ha hb
theorem rOpt_non {α : Type} [Im α] {o : Option α} (hn : ∀ (a : α) v H, r a v H → v ≠ .non) {v : V} {H : Hp} (h : r o v H) : decide (v = .non) = o.isNone := by
  cases o with
  | none =>
    have h : v = .non := h
    rw [h]; rfl
  | some a =>
    rw [decide_eq_false (hn a v H h)]; rfl
/-- a type whose values are never None -/
class NN (α : Type) [Im α] : Prop where
  nn : ∀ (a : α) v H, r a v H → v ≠ .non
instance : NN Int := ⟨fun a v H h q => by
  have h : v = .int a := h
  rw [h] at q
  cases q⟩
instance {α : Type} [Im α] : NN (List α) := ⟨fun a v H h q => by
  obtain ⟨p, xs, e, _⟩ := h
  rw [e] at q
  cases q⟩
theorem e_isN {α : Type} [Im α] [NN α] {o : Option α} {j : Nat} {p' : Pos} (ha : E X H0 G a (Val o)) : E X H0 G (.Compare a [.Is] [.Constant .none j p'] pos) (Val o.isNone) := fun σ H Q h0 q =>
  pe_out (pe_cmp (pc_isN pe_in) rfl) (ha σ H _ h0 fun v H1 s1 p1 => q _ H1 s1 (by rw [rOpt_non NN.nn p1]; rfl))
theorem e_notN {α : Type} [Im α] [NN α] {o : Option α} {j : Nat} {p' : Pos} (ha : E X H0 G a (Val o)) : E X H0 G (.Compare a [.IsNot] [.Constant .none j p'] pos) (Val (!o.isNone)) := fun σ H Q h0 q =>
  pe_out (pe_cmp (pc_notN pe_in) rfl) (ha σ H _ h0 fun v H1 s1 p1 => q _ H1 s1 (by rw [rOpt_non NN.nn p1]; rfl))
theorem et_isN {α : Type} [Im α] [NN α] {o : Option α} {j : Nat} {p' : Pos} (ha : E X H0 G a (Val o)) : ET X H0 G (.Compare a [.Is] [.Constant .none j p'] pos) o.isNone := fun σ H Q h0 q =>
  pt_out (pt_cmp (pc_isN pe_in) rfl) (ha σ H _ h0 fun v H1 s1 p1 => ⟨_, by rw [rOpt_non NN.nn p1], q H1 s1⟩)
theorem et_notN {α : Type} [Im α] [NN α] {o : Option α} {j : Nat} {p' : Pos} (ha : E X H0 G a (Val o)) : ET X H0 G (.Compare a [.IsNot] [.Constant .none j p'] pos) (!o.isNone) := fun σ H Q h0 q =>
  pt_out (pt_cmp (pc_notN pe_in) rfl) (ha σ H _ h0 fun v H1 s1 p1 => ⟨_, by rw [rOpt_non NN.nn p1], q H1 s1⟩)
variable {k l : Bool} {rest : List Expr}
theorem et_val (ha : E X H0 G e (Val k)) (he : ∀ whole, isTrue e X.env whole = (do let v ← whole; standAt e.pos; holding [v] (truthy v)) := by intro _; rfl) : ET X H0 G e k := fun σ H Q h0 q =>
  pt_out (pt_val pe_in he) (ha σ H _ h0 fun v H1 s1 p1 => ⟨k, p1, q H1 s1⟩)
theorem et_not (ha : ET X H0 G a k) : ET X H0 G (.UnaryOp .Not a pos) (!k) := fun σ H Q h0 q => pt_out (pt_not pt_in) (ha σ H _ h0 fun H1 s1 => q H1 s1)
/-- and, or: by PW (whatever their whole is) -/
def tW (X : Cx) (e : Expr) : TT := fun σ H Q => ∀ wh pins s, Inv X pins σ H s → wpAny (model X.prog X.w) X.A (isTrue e X.env wh) (TP X pins σ Q) X.xe s
theorem pw_in {X : Cx} {e : Expr} : PW X e (tW X e) := ⟨fun wh pins s _ _ _ I h => h wh pins s I⟩
theorem pw_out {X : Cx} {e : Expr} {t : TT} {σ : L2.St} {H : Hp} {Q : Bool → Hp → Prop} (p : PW X e t) (h : t σ H Q) : tW X e σ H Q := fun wh pins s I => p.run wh pins s σ H Q I h
def EW (X : Cx) (H0 : Hp) (G : List Slot) (e : Expr) (b : Bool) : Prop := ∀ σ H Q, At H0 G σ H → (∀ H', Same H H' → Q b H') → tW X e σ H Q
theorem ew_and1 (ha : ET X H0 G a k) : EW X H0 G (.BoolOp .And [a] pos) k := fun σ H Q h0 q => pw_out (pw_and1 pt_in) (ha σ H Q h0 q)
theorem ew_or1 (ha : ET X H0 G a k) : EW X H0 G (.BoolOp .Or [a] pos) k := fun σ H Q h0 q => pw_out (pw_or1 pt_in) (ha σ H Q h0 q)
theorem ew_and (ha : ET X H0 G a k) (hb : k = true → EW X H0 G (.BoolOp .And (b :: rest) pos) l) : EW X H0 G (.BoolOp .And (a :: b :: rest) pos) (k && l) := fun σ H Q h0 q =>
  pw_out (pw_and pt_in pw_in) (ha σ H _ h0 fun H1 s1 => by
    cases k with
    | true => exact hb rfl σ H1 Q (h0.ext s1) fun H2 s2 => q H2 (Same.trans s1 s2)
    | false => exact q H1 s1)
theorem ew_or (ha : ET X H0 G a k) (hb : k = false → EW X H0 G (.BoolOp .Or (b :: rest) pos) l) : EW X H0 G (.BoolOp .Or (a :: b :: rest) pos) (k || l) := fun σ H Q h0 q =>
  pw_out (pw_or pt_in pw_in) (ha σ H _ h0 fun H1 s1 => by
    cases k with
    | false => exact hb rfl σ H1 Q (h0.ext s1) fun H2 s2 => q H2 (Same.trans s1 s2)
    | true => exact q H1 s1)
theorem et_w (h : EW X H0 G e k) : ET X H0 G e k := fun σ H Q h0 q => pt_out pw_in.pt (h σ H Q h0 q)
theorem e_one {op : BoolOp} (ha : E X H0 G a ρ) : E X H0 G (.BoolOp op [a] pos) ρ := fun σ H Q h0 q => pe_out (pe_one pe_in) (ha σ H Q h0 q)
theorem e_and (ha : E X H0 G a (Val k)) (hb : k = true → E X H0 G (.BoolOp .And (b :: rest) pos) (Val l)) : E X H0 G (.BoolOp .And (a :: b :: rest) pos) (Val (k && l)) := fun σ H Q h0 q =>
  pe_out (pe_and pe_in pe_in) (ha σ H _ h0 fun v H1 s1 p1 => ⟨k, p1, by
    cases k with
    | true => exact hb rfl σ H1 Q (h0.ext s1) fun v H2 s2 p2 => q v H2 (Same.trans s1 s2) p2
    | false => exact q _ H1 s1 rfl⟩)
theorem e_or (ha : E X H0 G a (Val k)) (hb : k = false → E X H0 G (.BoolOp .Or (b :: rest) pos) (Val l)) : E X H0 G (.BoolOp .Or (a :: b :: rest) pos) (Val (k || l)) := fun σ H Q h0 q =>
  pe_out (pe_or pe_in pe_in) (ha σ H _ h0 fun v H1 s1 p1 => ⟨k, p1, by
    cases k with
    | false => exact hb rfl σ H1 Q (h0.ext s1) fun v H2 s2 p2 => q v H2 (Same.trans s1 s2) p2
    | true => exact q _ H1 s1 rfl⟩)
theorem e_not (ha : E X H0 G a (Val k)) : E X H0 G (.UnaryOp .Not a pos) (Val (!k)) := fun σ H Q h0 q => pe_out (pe_not pe_in) (ha σ H _ h0 fun v H1 s1 p1 => ⟨k, p1, q _ H1 s1 rfl⟩)
theorem e_if (hc : ET X H0 G c k) (ha : k = true → E X H0 G a ρ) (hb : k = false → E X H0 G b ρ) : E X H0 G (.IfExp c a b pos) ρ := fun σ H Q h0 q =>
  pe_out (pe_ifExp pt_in pe_in pe_in) (hc σ H _ h0 fun H1 s1 => by
    cases k with
    | true => exact ha rfl σ H1 Q (h0.ext s1) fun v H2 s2 p => q v H2 (Same.trans s1 s2) (ρ.anti s1 s2 p)
    | false => exact hb rfl σ H1 Q (h0.ext s1) fun v H2 s2 p => q v H2 (Same.trans s1 s2) (ρ.anti s1 s2 p))
/-- the value as an if of Lean's -/
theorem e_ite {α : Type} [Ty α] {u v : α} (hc : ET X H0 G c k) (ha : k = true → E X H0 G a (Val u)) (hb : k = false → E X H0 G b (Val v)) : E X H0 G (.IfExp c a b pos) (Val (if k = true then u else v)) :=
  e_if hc (fun h => by rw [if_pos h]; exact ha h) fun h => by rw [if_neg (by rw [h]; decide)]; exact hb h
end
end Lk

/-! LkS -/
set_option Elab.async false
set_option linter.all false
set_option maxRecDepth 100000
set_option maxHeartbeats 4000000
set_option autoImplicit false
/-! The layer: statements, loops, comprehensions, calls. -/
namespace Lk
open PySem PySem.Spec PyProof.Rows L2
open Ty (r)

/-! ### slots changed -/
section
variable {H0 H H' : Hp} {G : List Slot} {σ : L2.St} {s : Slot} {v : V} {j : Nat}
theorem At.set (h : At H0 G σ H) (hs : s.ok H0 v H) (ho : ¬ s.isOwn) : At H0 (G.set j s) (σ.set j (some v)) H := by
  refine ⟨by simp [h.len], fun i t e => ?_, fun i k t u w e1 e2 o1 o2 q1 q2 => ?_, h.same⟩
  · rw [List.getElem?_set] at e
    by_cases hj : j = i
    · subst hj
      simp only [if_true] at e
      split at e
      · cases e
        rename_i hl
        exact ⟨some v, by rw [List.getElem?_set_self (by rw [h.len]; exact hl)], Slot.at_some hs⟩
      · cases e
    · rw [if_neg hj] at e
      obtain ⟨o, e1, e2⟩ := h.at_ i t e
      exact ⟨o, by rw [List.getElem?_set_ne hj]; exact e1, e2⟩
  · have ni : j ≠ i := fun z => by
      subst z
      rw [List.getElem?_set] at e1
      simp only [if_true] at e1
      split at e1
      · cases e1; exact ho o1
      · cases e1
    have nk : j ≠ k := fun z => by
      subst z
      rw [List.getElem?_set] at e2
      simp only [if_true] at e2
      split at e2
      · cases e2; exact ho o2
      · cases e2
    rw [List.getElem?_set_ne ni] at e1 q1
    rw [List.getElem?_set_ne nk] at e2 q2
    exact h.apart i k t u w e1 e2 o1 o2 q1 q2
/-- forgotten -/
theorem At.drop (h : At H0 G σ H) {o : Option V} : At H0 (G.set j .no) (σ.set j o) H := by
  refine ⟨by simp [h.len], fun i t e => ?_, fun i k t u w e1 e2 o1 o2 q1 q2 => ?_, h.same⟩
  · rw [List.getElem?_set] at e
    by_cases hj : j = i
    · subst hj
      simp only [if_true] at e
      split at e
      · cases e
        rename_i hl
        exact ⟨o, by rw [List.getElem?_set_self (by rw [h.len]; exact hl)], trivial⟩
      · cases e
    · rw [if_neg hj] at e
      obtain ⟨o, e1, e2⟩ := h.at_ i t e
      exact ⟨o, by rw [List.getElem?_set_ne hj]; exact e1, e2⟩
  · have ni : j ≠ i := fun z => by
      subst z
      rw [List.getElem?_set] at e1
      simp only [if_true] at e1
      split at e1
      · cases e1; exact o1
      · cases e1
    have nk : j ≠ k := fun z => by
      subst z
      rw [List.getElem?_set] at e2
      simp only [if_true] at e2
      split at e2
      · cases e2; exact o2
      · cases e2
    rw [List.getElem?_set_ne ni] at e1 q1
    rw [List.getElem?_set_ne nk] at e2 q2
    exact h.apart i k t u w e1 e2 o1 o2 q1 q2
/-- an owned thing is at an address that H0 does not have -/
theorem Slot.own_new (o : s.isOwn) (h : s.ok H0 v H) : ∃ p u, v = .ref p ∧ H0 p = none ∧ H p = some u ∧ ∀ xs, u ≠ .tup xs := by
  cases s with
  | no => exact o.elim
  | im a => exact o.elim
  | old a => exact o.elim
  | own l => obtain ⟨p, xs, e1, e2, e3, _⟩ := h; exact ⟨p, _, e1, e2, e3, fun _ z => nomatch z⟩
  | ownK l => obtain ⟨p, xs, e1, e2, e3, _⟩ := h; exact ⟨p, _, e1, e2, e3, fun _ z => nomatch z⟩
  | ownT l => obtain ⟨p, e1, e2, e3⟩ := h; exact ⟨p, _, e1, e2, e3, fun _ z => nomatch z⟩
/-- a new owned thing -/
theorem At.set_own {p : Addr} (h : At H0 G σ H) (e : Same H H') (hp : H p = none) (hs : s.ok H0 (.ref p) H') : At H0 (G.set j s) (σ.set j (some (.ref p))) H' := by
  have h' := h.ext e
  have ne : ∀ {i : Nat} {t : Slot}, G[i]? = some t → t.isOwn → σ[i]? ≠ some (some (.ref p)) := fun {i t} e1 o q => by
    obtain ⟨o', q1, q2⟩ := h.at_ i t e1
    rw [q] at q1
    cases q1
    obtain ⟨w, ew, ok⟩ := Slot.at_get q2 (by intro z; rw [z] at o; exact o)
    cases ew
    obtain ⟨p', u, e3, _, e4, _⟩ := Slot.own_new o ok
    cases e3
    rw [hp] at e4
    cases e4
  refine ⟨by simp [h.len], fun i t e => ?_, fun i k t u w e1 e2 o1 o2 q1 q2 => ?_, h'.same⟩
  · rw [List.getElem?_set] at e
    by_cases hj : j = i
    · subst hj
      simp only [if_true] at e
      split at e
      · cases e
        rename_i hl
        exact ⟨some (.ref p), by rw [List.getElem?_set_self (by rw [h.len]; exact hl)], Slot.at_some hs⟩
      · cases e
    · rw [if_neg hj] at e
      obtain ⟨o, e1, e2⟩ := h'.at_ i t e
      exact ⟨o, by rw [List.getElem?_set_ne hj]; exact e1, e2⟩
  · by_cases ni : j = i
    · by_cases nk : j = k
      · rw [← ni, ← nk]
      · exfalso
        subst ni
        rw [List.getElem?_set_ne nk] at e2 q2
        have jl : j < σ.length := by
          rw [List.getElem?_set] at q1
          simp only [if_true] at q1
          split at q1
          · assumption
          · cases q1
        rw [List.getElem?_set_self jl] at q1
        cases q1
        exact ne e2 o2 q2
    · by_cases nk : j = k
      · exfalso
        subst nk
        rw [List.getElem?_set_ne ni] at e1 q1
        have jl : j < σ.length := by
          rw [List.getElem?_set] at q2
          simp only [if_true] at q2
          split at q2
          · assumption
          · cases q2
        rw [List.getElem?_set_self jl] at q2
        cases q2
        exact ne e1 o1 q1
      · rw [List.getElem?_set_ne ni] at e1 q1
        rw [List.getElem?_set_ne nk] at e2 q2
        exact h.apart i k t u w e1 e2 o1 o2 q1 q2
/-- what is kept when the base is laid anew -/
def reb (H0 H H1 : Hp) : Hp := fun b => match H0 b with
  | some o => some o
  | none => cut H H1 b
theorem reb_old {H1 : Hp} : Same H0 (reb H0 H H1) := fun b o e => by
  unfold reb
  rw [e]
theorem reb_cut {H1 : Hp} (s : Same H0 H) : Same (cut H H1) (reb H0 H H1) := fun b o e => by
  unfold reb
  cases h : H0 b with
  | none => exact e
  | some u =>
    have := s b u h
    unfold cut at e
    rw [this] at e
    cases u <;> first
      | (cases e; done)
      | (cases e; rfl)
theorem reb_le {H1 : Hp} (s : Same H0 H) (s1 : Same H H1) : Same (reb H0 H H1) H1 := fun b o e => by
  unfold reb at e
  cases h : H0 b with
  | none => rw [h] at e; exact cut_some s1 b o e
  | some u =>
    rw [h] at e
    cases e
    exact s1 b _ (s b _ h)
theorem At.reb {H1 : Hp} (h : At H0 G σ H) (s1 : Same H H1) : At (reb H0 H H1) G σ H1 := by
  have h' := h.ext s1
  refine ⟨h.len, fun i t e => ?_, h.apart, reb_le h.same s1⟩
  obtain ⟨o, e1, e2⟩ := h.at_ i t e
  refine ⟨o, e1, ?_⟩
  have fre : ∀ p : Addr, H0 p = none → (∃ u, H p = some u ∧ ∀ xs, u ≠ .tup xs) → (Lk.reb H0 H H1) p = none := fun p h0 ⟨u, hu, nt⟩ => by
    unfold Lk.reb
    rw [h0]
    show cut H H1 p = none
    unfold cut
    rw [hu]
    cases u <;> first
      | rfl
      | exact absurd rfl (nt _)
  cases t with
  | no => trivial
  | @im α _ a => obtain ⟨v, ev, q⟩ := e2; exact ⟨v, ev, Ty.mono (α := α) s1 q⟩
  | @old α _ a => obtain ⟨v, ev, q⟩ := e2; exact ⟨v, ev, Ty.mono (α := α) reb_old q⟩
  | own l => obtain ⟨v, ev, p, xs, q1, q2, q3, q4⟩ := e2; exact ⟨v, ev, p, xs, q1, fre p q2 ⟨_, q3, fun _ z => nomatch z⟩, s1 _ _ q3, q4.mono s1⟩
  | ownK l => obtain ⟨v, ev, p, xs, q1, q2, q3, q4⟩ := e2; exact ⟨v, ev, p, xs, q1, fre p q2 ⟨_, q3, fun _ z => nomatch z⟩, s1 _ _ q3, q4.mono s1⟩
  | ownT l => obtain ⟨v, ev, p, q1, q2, q3⟩ := e2; exact ⟨v, ev, p, q1, fre p q2 ⟨_, q3, fun _ z => nomatch z⟩, s1 _ _ q3⟩
end

/-! ### defs called -/
structure Cal (P : Program) (w : World) (K : PySem.W.Frag) (mg : Str → Option Value) (base : Heap) (k : Nat) (x : Str) (ps : List Str) (sp : Sp) : Prop where
  ex : ∃ f fd, FnOk P w K mg base CX0 k f fd ps sp ∧ mg x = some (.ref f) ∧ PySem.W.keepIn K (.ref f) = true ∧ Binds K fd ps []
def spG {ι : Type} (args : ι → Ars) (pre : ι → Prop) (res : ι → Res) : Sp := fun vs H Q _ => ∃ i, pre i ∧ (args i).p vs H ∧ ∀ v H', Same H H' → (res i).p H v H' → Q v H'
section
variable {X : Cx} {H0 : Hp} {G : List Slot} {e a b c : Expr} {es : List Expr} {pos p : Pos} {ρ : Res} {R : Ars}
theorem e_call {ι : Type} {args : ι → Ars} {pre : ι → Prop} {res : ι → Res} {k m : Nat} {x : Str} {ps : List Str} (F : Cal X.prog X.w X.K X.mg X.base k x ps (spG args pre res)) (hr : Room m X.A) (i : ι) (hp : pre i) (ha : EA X H0 G (e :: es) (args i))
    (hk : k ≤ m := by decide) (hg : Gl X x := by rfl) (hdb : (x == ("__debug__" : Str)) = false := by decide) (he : starEach (e :: es) X.env = (false, eval e X.env) :: starEach es X.env := by rfl) (hpl : (backTo pos (starEach es X.env)).any (·.1) = false := by rfl) :
    E X H0 G (.Call (.Name x p) (e :: es) [] pos) (res i) := fun σ H Q h0 q => by
  obtain ⟨f, fd, F1, F2, F3, F4⟩ := F.ex
  refine pe_out (pe_call F1 (hr.mono hk) hg F2 F3 F4 .nil pass0 pa_in hdb he hpl) (ha σ H _ h0 fun vs H1 s1 p1 => ?_)
  show spG args pre res (vs ++ []) H1 Q E0
  rw [List.append_nil]
  exact ⟨i, hp, p1, fun v H2 s2 p2 => q v H2 (Same.trans s1 s2) ((res i).anti s1 s2 p2)⟩
/-- a built-in by its name, of one value -/
theorem e_callB1 {α : Type} [Ty α] {x : α} {id : String} {rr : List V → Hp → VK → Prop} {n : Str} (hc : CallR X (.builtin id) rr) (hm : X.mg n = none) (hv : bootBuiltins n = some (.builtin id)) (ha : E X H0 G a (Val x))
    (hr : ∀ v H Q, r x v H → (∀ u H', Same H H' → ρ.p H u H' → Q u H') → rr [v] H Q) (hg : Gl X n := by rfl) (hn : n ≠ "__name__" := by decide) (hdb : (n == ("__debug__" : Str)) = false := by decide)
    (hs : starEach [a] X.env = (false, eval a X.env) :: starEach [] X.env := by rfl) (hpl : (backTo pos (starEach [] X.env)).any (·.1) = false := by rfl) : E X H0 G (.Call (.Name n p) [a] [] pos) ρ := fun σ H Q h0 q =>
  pe_out (pe_callB hc hg hm hv (pa_cons pe_in pa_nil hs) hn hdb hs hpl) (ha σ H _ h0 fun v H1 s1 p1 => hr v H1 Q p1 fun u H2 s2 p2 => q u H2 (Same.trans s1 s2) (ρ.anti s1 s2 p2))
theorem e_callB2 {α β : Type} [Ty α] [Ty β] {x : α} {y : β} {id : String} {rr : List V → Hp → VK → Prop} {n : Str} (hc : CallR X (.builtin id) rr) (hm : X.mg n = none) (hv : bootBuiltins n = some (.builtin id)) (ha : E X H0 G a (Val x)) (hb : E X H0 G b (Val y))
    (hr : ∀ v w H Q, r x v H → r y w H → (∀ u H', Same H H' → ρ.p H u H' → Q u H') → rr [v, w] H Q) (hg : Gl X n := by rfl) (hn : n ≠ "__name__" := by decide) (hdb : (n == ("__debug__" : Str)) = false := by decide)
    (hs : starEach [a, b] X.env = (false, eval a X.env) :: starEach [b] X.env := by rfl) (hs2 : starEach [b] X.env = (false, eval b X.env) :: starEach [] X.env := by rfl) (hpl : (backTo pos (starEach [b] X.env)).any (·.1) = false := by rfl) : E X H0 G (.Call (.Name n p) [a, b] [] pos) ρ := fun σ H Q h0 q =>
  pe_out (pe_callB hc hg hm hv (pa_cons pe_in (pa_cons pe_in pa_nil hs2) hs) hn hdb hs hpl) (ha σ H _ h0 fun v H1 s1 p1 => hb σ H1 _ (h0.ext s1) fun w H2 s2 p2 => hr v w H2 Q (Ty.mono s2 p1) p2 fun u H3 s3 p3 => q u H3 (Same.trans (Same.trans s1 s2) s3) (ρ.anti (Same.trans s1 s2) s3 p3))
theorem e_callT1 {α : Type} [Ty α] {x : α} {T : String} {rr : List V → Hp → VK → Prop} {n : Str} (hc : CallR X (.type T) rr) (hm : X.mg n = none) (hv : bootBuiltins n = some (.type T)) (ha : E X H0 G a (Val x))
    (hr : ∀ v H Q, r x v H → (∀ u H', Same H H' → ρ.p H u H' → Q u H') → rr [v] H Q) (hg : Gl X n := by rfl) (hn : n ≠ "__name__" := by decide) (hdb : (n == ("__debug__" : Str)) = false := by decide)
    (hs : starEach [a] X.env = (false, eval a X.env) :: starEach [] X.env := by rfl) (hpl : (backTo pos (starEach [] X.env)).any (·.1) = false := by rfl) : E X H0 G (.Call (.Name n p) [a] [] pos) ρ := fun σ H Q h0 q =>
  pe_out (pe_callTy hc hg hm hv (pa_cons pe_in pa_nil hs) hn hdb hs hpl) (ha σ H _ h0 fun v H1 s1 p1 => hr v H1 Q p1 fun u H2 s2 p2 => q u H2 (Same.trans s1 s2) (ρ.anti s1 s2 p2))
end
end Lk

/-! LkL -/
set_option Elab.async false
set_option linter.all false
set_option maxRecDepth 100000
set_option maxHeartbeats 4000000
set_option autoImplicit false
/-! The layer: a def's body, statements, loops, comprehensions. -/
namespace Lk
open PySem PySem.Spec PyProof.Rows L2
open Ty (r)

/-! ### a def's entry -/
def endsOf (ρ : Res) (H : Hp) : Ends := { nx := fun _ H' => Same H H' ∧ ρ.p H .non H', rt := fun v H' => Same H H' ∧ ρ.p H v H' }
theorem tB_mono {X : Cx} {st : List Stmt} {D D' : Ends} {σ : L2.St} {H : Hp} (h : tB X st D σ H) (h1 : ∀ σ H, D.nx σ H → D'.nx σ H) (h2 : ∀ v H, D.rt v H → D'.rt v H) (h3 : ∀ σ H, D.bk σ H → D'.bk σ H) (h4 : ∀ σ H, D.ct σ H → D'.ct σ H) : tB X st D' σ H := fun pins s I =>
  thn (h pins s I) fun f s' q => by
    cases f with
    | next => obtain ⟨σ', H', I', q⟩ := q; exact ⟨σ', H', I', h1 _ _ q⟩
    | brk => obtain ⟨σ', H', I', q⟩ := q; exact ⟨σ', H', I', h3 _ _ q⟩
    | cont => obtain ⟨σ', H', I', q⟩ := q; exact ⟨σ', H', I', h4 _ _ q⟩
    | ret u => obtain ⟨v, σ', H', I', rv, q⟩ := q; exact ⟨v, σ', H', I', rv, h2 _ _ q⟩
/-- the arguments as slots -/
def Ent (R : Ars) (gs : List Slot) : Prop := ∀ (vs : List V) (H : Hp), R.p vs H → vs.length = gs.length ∧ ∀ (i : Nat) (s : Slot), gs[i]? = some s → ∃ v, vs[i]? = some v ∧ s.ok H v H ∧ ¬ s.isOwn
theorem ent_nil : Ent .nil [] := fun vs H h => by
  have h : vs = [] := h
  subst h
  exact ⟨rfl, fun i s e => by simp at e⟩
theorem ent_im {α : Type} [Im α] {x : α} {R : Ars} {gs : List Slot} (h : Ent R gs) : Ent (.cons x R) (.im x :: gs) := fun vs H ⟨v, ws, e, h1, h2⟩ => by
  obtain ⟨l, q⟩ := h ws H h2
  subst e
  refine ⟨by simp [l], fun i s e => ?_⟩
  cases i with
  | zero => cases e; exact ⟨v, rfl, h1, fun z => z⟩
  | succ i => exact q i s e
theorem ent_old {α : Type} [Ty α] {x : α} {R : Ars} {gs : List Slot} (h : Ent R gs) : Ent (.cons x R) (.old x :: gs) := fun vs H ⟨v, ws, e, h1, h2⟩ => by
  obtain ⟨l, q⟩ := h ws H h2
  subst e
  refine ⟨by simp [l], fun i s e => ?_⟩
  cases i with
  | zero => cases e; exact ⟨v, rfl, h1, fun z => z⟩
  | succ i => exact q i s e
theorem ent_at {R : Ars} {gs : List Slot} {N : List Str} {vs : List V} {H : Hp} {n : Nat} (h : Ent R gs) (hl : N.length = gs.length + n) (hv : R.p vs H) : At H (gs ++ List.replicate n .no) (L2.start N vs) H := by
  obtain ⟨l, q⟩ := h vs H hv
  have get : ∀ {i : Nat} {s : Slot}, (gs ++ List.replicate n Slot.no)[i]? = some s → s = .no ∨ gs[i]? = some s := fun {i s} e => by
    by_cases hi : i < gs.length
    · rw [List.getElem?_append_left hi] at e
      exact .inr e
    · rw [List.getElem?_append_right (by omega), List.getElem?_replicate] at e
      split at e
      · cases e; exact .inl rfl
      · cases e
  have stl : (L2.start N vs).length = gs.length + n := by
    unfold L2.start
    rw [List.length_append, List.length_map, List.length_replicate]
    omega
  refine ⟨by rw [stl]; simp, fun i s e => ?_, fun i j s t v e1 e2 o1 o2 _ _ => ?_, Same.refl H⟩
  · have il : i < (L2.start N vs).length := by
      rw [stl]
      have := (List.getElem?_eq_some_iff.mp e).1
      simpa using this
    rcases get e with rfl | e'
    · exact ⟨(L2.start N vs)[i], by simp [il], trivial⟩
    · obtain ⟨v, e2, ok, _⟩ := q i s e'
      refine ⟨some v, ?_, Slot.at_some ok⟩
      unfold L2.start
      have hi : i < vs.length := (List.getElem?_eq_some_iff.mp e2).1
      rw [List.getElem?_append_left (by simpa using hi), List.getElem?_map, e2]
      rfl
  · exfalso
    rcases get e1 with rfl | e'
    · exact o1
    · obtain ⟨_, _, _, no⟩ := q i s e'
      exact no o1
section
variable {P : Program} {w : World} {K : PySem.W.Frag} {mg : Str → Option Value} {base : Heap} {x qual : Str} {params : Arguments} {body : List Stmt} {scope : Scope} {f : Addr} {fd : FuncData} {N ps : List Str}
/-- THE RULE for a def: its body as a block from its arguments -/
theorem fn_ok {ι : Type} {args : ι → Ars} {pre : ι → Prop} {res : ι → Res} (gs : ι → List Slot) (n : Nat) {k : Nat} (F : FunD K x qual params body scope [] [] f fd) (S : FnScope N ps scope) (hE : ∀ i, Ent (args i) (gs i)) (hps : ∀ i, (gs i).length = ps.length) (hn : ∀ i, N.length = (gs i).length + n)
    (h : ∀ (cdv : Value) (A : Around) (outer : List Env) (s : Shared) (H : Hp) (E : XK) (i : ι), Room k (A.deeper (envOfC qual scope s.heap.objs.size f cdv)) → pre i →
      B (cxOf CX0 P w K mg base N qual scope f cdv A outer s H E).nox H (gs i ++ List.replicate n .no) body (endsOf (res i) H)) : FnOk P w K mg base CX0 (k + 1) f fd ps (spG args pre res) := by
  refine F.ok S (fun vs H Q E ⟨i, _, h1, _⟩ => ((hE i) vs H h1).1.trans (hps i)) fun cdv A outer s H vs Q E hr ⟨i, hp, h1, q⟩ => ?_
  refine ⟨_, PSs.nox pss_in, ?_⟩
  exact tB_mono (h cdv A outer s H E i hr hp _ H (ent_at (hE i) (hn i) h1)) (fun _ H' z => q _ H' z.1 z.2) (fun v H' z => q v H' z.1 z.2) (fun _ _ z => z) fun _ _ z => z
end

/-! ### statements -/
section
variable {X : Cx} {H0 He : Hp} {G : List Slot} {e a b c tg : Expr} {es : List Expr} {pos p : Pos} {ρ : Res} {R : Ars} {D : Ends} {st : Stmt} {rest body els : List Stmt} {k : Bool}
theorem B.seq (h : ∀ σ H, At H0 G σ H → tS X st { D with nx := fun σ H => tB X rest D σ H } σ H) : B X H0 G (st :: rest) D := fun σ H h0 => pss_out (pss_cons ps_in pss_in) (h σ H h0)
theorem b_nil (h : ∀ σ H, At H0 G σ H → D.nx σ H) : B X H0 G [] D := fun σ H h0 => pss_out pss_nil (h σ H h0)
theorem b_ret (h : E X H0 G e ρ) (hs : Same He H0) (hD : D.rt = (endsOf ρ He).rt := by rfl) : B X H0 G (.Return (some e) pos :: rest) D := B.seq fun σ H h0 => ps_out (ps_ret pe_in) (h σ H _ h0 fun v H1 s1 p1 => by
  show D.rt v H1
  rw [hD]
  exact ⟨Same.trans (Same.trans hs h0.same) s1, ρ.anti (Same.trans hs h0.same) s1 p1⟩)
/-- the same, by a value that is shown to be the wanted one -/
theorem b_retV {α : Type} [Ty α] {x y : α} (h : E X H0 G e (Val x)) (hs : Same He H0) (hx : x = y) (hD : D.rt = (endsOf (Val y) He).rt := by rfl) : B X H0 G (.Return (some e) pos :: rest) D := b_ret (ρ := Val y) (by rw [← hx]; exact h) hs hD
theorem b_retN {α : Type} [Ty α] {x y : α} (h : E X H0 G e (New x)) (hs : Same He H0) (hx : x = y) (hD : D.rt = (endsOf (New y) He).rt := by rfl) : B X H0 G (.Return (some e) pos :: rest) D := b_ret (ρ := New y) (by rw [← hx]; exact h) hs hD
theorem b_retNone (hs : Same He H0) (hD : D.rt = (endsOf (Val ()) He).rt := by rfl) : B X H0 G (.Return none pos :: rest) D := B.seq fun σ H h0 => ps_out ps_retN (by
  show D.rt .non H
  rw [hD]
  exact ⟨Same.trans hs h0.same, rfl⟩)
theorem b_drop (h : E X H0 G e ρ) (hr : B X H0 G rest D) (hs : swapsWith e none pos.line X.env = pure false := by rfl) : B X H0 G (.Expr e pos :: rest) D := B.seq fun σ H h0 => ps_out (ps_expr pe_in hs) (h σ H _ h0 fun v H1 s1 p1 => hr σ H1 (h0.ext s1))
/-- if: both ways shown with what follows -/
theorem b_if (hc : ET X H0 G c k) (h1 : k = true → B X H0 G body { D with nx := fun σ H => tB X rest D σ H }) (h2 : k = false → B X H0 G els { D with nx := fun σ H => tB X rest D σ H }) : B X H0 G (.If c body els pos :: rest) D := B.seq fun σ H h0 => ps_out (ps_if pt_in pss_in pss_in) (hc σ H _ h0 fun H1 s1 => by
  cases k with
  | true => exact h1 rfl σ H1 (h0.ext s1)
  | false => exact h2 rfl σ H1 (h0.ext s1))
/-- if without else, its body leaves the block (or is never reached) -/
theorem b_ifR (hc : ET X H0 G c k) (h1 : k = true → B X H0 G body { D with nx := fun σ H => tB X rest D σ H }) (h2 : k = false → B X H0 G rest D) : B X H0 G (.If c body [] pos :: rest) D := b_if hc h1 fun h => b_nil fun σ H h0 => h2 h σ H h0
theorem b_ifF (hc : ET X H0 G c false) (h2 : B X H0 G rest D) : B X H0 G (.If c body [] pos :: rest) D := b_ifR hc (fun h => nomatch h) fun _ => h2
theorem b_go (h : B X H0 G rest D) : B X H0 G [] { D with nx := fun σ H => tB X rest D σ H } := b_nil fun σ H h0 => h σ H h0
/-- x = e -/
theorem b_set (i : Nat) {α : Type} [Im α] {x : α} {n : Str} {p' : Pos} (he : E X H0 G e (Val x)) (hr : B X H0 (G.set i (.im x)) rest D) (hN : X.N.Nodup) (hi : X.N[i]? = some n := by rfl) (hx : Loc X.env.scope n := by first | exact Or.inl rfl | exact Or.inr rfl) (hs : swapsWith e (some (.Name n p')) pos.line X.env = pure false := by rfl)
    (hf : X.fn n = true ∨ X.env.scope.names.lookup n = some .local := by first | exact .inl rfl | exact .inr rfl) : B X H0 G (.Assign [.Name n p'] e pos :: rest) D := B.seq fun σ H h0 => ps_out (ps_set hN hi hx pe_in hs hf) (he σ H _ h0 fun v H1 s1 p1 => hr _ H1 ((h0.ext s1).set p1 fun z => z))
/-- x = e, a new list that x owns -/
theorem b_setOwn (i : Nat) {α : Type} [Im α] {x : List α} {n : Str} {p' : Pos} (he : E X H0 G e (New (Lst.mk x))) (hr : B X H0 (G.set i (.own x)) rest D) (hN : X.N.Nodup) (hi : X.N[i]? = some n := by rfl) (hx : Loc X.env.scope n := by first | exact Or.inl rfl | exact Or.inr rfl) (hs : swapsWith e (some (.Name n p')) pos.line X.env = pure false := by rfl)
    (hf : X.fn n = true ∨ X.env.scope.names.lookup n = some .local := by first | exact .inl rfl | exact .inr rfl) : B X H0 G (.Assign [.Name n p'] e pos :: rest) D := B.seq fun σ H h0 => ps_out (ps_set hN hi hx pe_in hs hf) (he σ H _ h0 fun v H1 s1 p1 => by
  obtain ⟨p, xs, rfl, e1, e2⟩ := p1
  have np : H p = none := by
    unfold cut at e1
    cases h : H p with
    | none => rfl
    | some u =>
      rw [h] at e1
      cases u <;> cases e1
  exact hr _ H1 (h0.set_own s1 np ⟨p, xs, rfl, Same.free h0.same np, cut_some s1 _ _ e1, e2.mono (cut_some s1)⟩))
/-- x = e, a new thing that stays as it is from here on -/
theorem b_setNew (i : Nat) {α : Type} [Ty α] {x : α} {n : Str} {p' : Pos} (he : E X H0 G e (New x)) (hr : ∀ H0', Same H0 H0' → B X H0' (G.set i (.old x)) rest D) (hN : X.N.Nodup) (hi : X.N[i]? = some n := by rfl) (hx : Loc X.env.scope n := by first | exact Or.inl rfl | exact Or.inr rfl) (hs : swapsWith e (some (.Name n p')) pos.line X.env = pure false := by rfl)
    (hf : X.fn n = true ∨ X.env.scope.names.lookup n = some .local := by first | exact .inl rfl | exact .inr rfl) : B X H0 G (.Assign [.Name n p'] e pos :: rest) D := B.seq fun σ H h0 => ps_out (ps_set hN hi hx pe_in hs hf) (he σ H _ h0 fun v H1 s1 p1 =>
  hr (reb H0 H H1) reb_old _ H1 ((h0.reb s1).set (s := .old x) (Ty.mono (reb_cut h0.same) p1) fun z => z))
theorem b_setOld (i : Nat) {α : Type} [Ty α] {x : α} {n : Str} {p' : Pos} (he : E X H0 G e (Old H0 x)) (hr : B X H0 (G.set i (.old x)) rest D) (hN : X.N.Nodup) (hi : X.N[i]? = some n := by rfl) (hx : Loc X.env.scope n := by first | exact Or.inl rfl | exact Or.inr rfl) (hs : swapsWith e (some (.Name n p')) pos.line X.env = pure false := by rfl)
    (hf : X.fn n = true ∨ X.env.scope.names.lookup n = some .local := by first | exact .inl rfl | exact .inr rfl) : B X H0 G (.Assign [.Name n p'] e pos :: rest) D := B.seq fun σ H h0 => ps_out (ps_set hN hi hx pe_in hs hf) (he σ H _ h0 fun v H1 s1 p1 =>
  hr _ H1 ((h0.ext s1).set (s := .old x) p1 fun z => z))
/-- x += e, x -= e -/
theorem b_aug {op : Operator} {g : Int → Int → Int} (ho : PIp X op (ipI g)) (i : Nat) {x y : Int} {n : Str} {p' : Pos} (he : E X H0 G e (Val y)) (hr : B X H0 (G.set i (.im (g x y))) rest D) (hN : X.N.Nodup) (hG : G[i]? = some (.im x) := by rfl) (hi : X.N[i]? = some n := by rfl) (hx : Loc X.env.scope n := by first | exact Or.inl rfl | exact Or.inr rfl)
    (hf : X.fn n = true ∨ X.env.scope.names.lookup n = some .local := by first | exact .inl rfl | exact .inr rfl) : B X H0 G (.AugAssign (.Name n p') op e pos :: rest) D := B.seq fun σ H h0 => ps_out (ps_aug hN hi hx pe_in ho hf) (by
  obtain ⟨v, e1, e2⟩ := h0.get hG (by intro h; cases h)
  refine ⟨v, e1, he σ H _ h0 fun w H1 s1 p1 => ?_⟩
  exact ⟨x, y, e2, p1, hr _ H1 ((h0.ext s1).set (s := .im (g x y)) rfl fun z => z)⟩)
/-- never reached -/
theorem b_never (h : ∀ σ H, At H0 G σ H → False) : B X H0 G body D := fun σ H h0 => (h σ H h0).elim

/-! ### targets -/
def tG (X : Cx) (tg : Expr) : TG := fun v σ H Q => ∀ pins s u, Inv X pins σ H s → RelV v u → wpAny (model X.prog X.w) X.A (assign tg X.env u) (fun _ s' => ∃ σ' H', Inv X pins σ' H' s' ∧ Q σ' H') X.xe s
theorem pg_in : PG X tg (tG X tg) := ⟨fun pins s σ H v u Q I rv h => h pins s u I rv⟩
theorem pg_out {t : TG} {v : V} {σ : L2.St} {H : Hp} {Q : L2.St → Hp → Prop} (h : PG X tg t) (q : t v σ H Q) : tG X tg v σ H Q := fun pins s u I rv => h.run pins s σ H v u Q I rv q
/-- a target, the slots that it fills (js), what they hold -/
def Tgt (X : Cx) (tg : Expr) (js : List Nat) {γ : Type} [Im γ] (up : γ → List Slot → List Slot) : Prop :=
  ∀ (x : γ) v σ (H0 : Hp) G H (Q : L2.St → Hp → Prop), r x v H → At H0 G σ H → (∀ σ', At H0 (up x G) σ' H → (∀ vs, (∀ j ∈ js, j ∈ vs) → wipe σ' vs = wipe σ vs) → Q σ' H) → tG X tg v σ H Q
theorem wipe_set {o : Option V} {j : Nat} : ∀ {vs : List Nat} {σ : L2.St}, j ∈ vs → wipe (σ.set j o) vs = wipe σ vs
  | [], _, h => by simp at h
  | v :: vs, σ, h => by
    show (wipe (σ.set j o) vs).set v none = (wipe σ vs).set v none
    by_cases hj : j ∈ vs
    · rw [wipe_set hj]
    · have e : j = v := by
        rcases List.mem_cons.mp h with z | z
        · exact z
        · exact absurd z hj
      subst e
      have com : ∀ (us : List Nat) (τ : L2.St), wipe (τ.set j o) us = (wipe τ us).set j o ∨ j ∈ us := fun us => by
        induction us with
        | nil => intro τ; exact .inl rfl
        | cons u us ih =>
          intro τ
          by_cases hu : j = u
          · exact .inr (by simp [hu])
          · rcases ih τ with q | q
            · refine .inl ?_
              show (wipe (τ.set j o) us).set u none = ((wipe τ us).set u none).set j o
              rw [q, List.set_comm _ _ hu]
            · exact .inr (List.mem_cons.mpr (.inr q))
      rcases com vs σ with q | q
      · rw [q, List.set_set]
      · exact absurd q hj
theorem tgt_name (i : Nat) {γ : Type} [Im γ] {n : Str} (hN : X.N.Nodup) (hi : X.N[i]? = some n := by rfl) (hx : Loc X.env.scope n := by first | exact Or.inl rfl | exact Or.inr rfl) (hf : X.fn n = true ∨ X.env.scope.names.lookup n = some .local := by first | exact .inl rfl | exact .inr rfl) :
    Tgt X (.Name n pos) [i] (fun (x : γ) G => G.set i (.im x)) := fun x v σ H0 G H Q hr h0 q => pg_out (pg_name hN hi hx hf) (q _ (h0.set (s := .im x) hr fun z => z) fun vs hv => wipe_set (hv i (by simp)))
theorem tgt_2 (i j : Nat) {α β : Type} [Im α] [Im β] {n m : Str} {p1 p2 : Pos} {kk : Nat} (hc : X.calm = true) (hN : X.N.Nodup) (hi : X.N[i]? = some n := by rfl) (hj : X.N[j]? = some m := by rfl) (hx : Loc X.env.scope n := by first | exact Or.inl rfl | exact Or.inr rfl) (hy : Loc X.env.scope m := by first | exact Or.inl rfl | exact Or.inr rfl)
    (hf : X.fn n = true ∨ X.env.scope.names.lookup n = some .local := by first | exact .inl rfl | exact .inr rfl) (hg : X.fn m = true ∨ X.env.scope.names.lookup m = some .local := by first | exact .inl rfl | exact .inr rfl) :
    Tgt X (.Tuple [.Name n p1, .Name m p2] kk pos) [i, j] (fun (x : α × β) G => (G.set i (.im x.1)).set j (.im x.2)) := fun x v σ H0 G H Q ⟨q, y, z, e1, e2, e3, e4⟩ h0 h =>
  pg_out (pg_tup hc (pgs_cons (pg_name hN hi hx hf) (pgs_cons (pg_name hN hj hy hg) pgs_nil))) ⟨q, [y, z], e1, .inl (.inl e2), rfl, y, [z], rfl, z, [], rfl, rfl,
    h _ (((h0.set (s := .im x.1) e3 fun z => z).set (s := .im x.2) e4 fun z => z)) fun vs hv => by rw [wipe_set (hv j (by simp)), wipe_set (hv i (by simp))]⟩
theorem tgt_3 (i j l : Nat) {α β γ : Type} [Im α] [Im β] [Im γ] {n m o : Str} {p1 p2 p3 : Pos} {kk : Nat} (hc : X.calm = true) (hN : X.N.Nodup) (hi : X.N[i]? = some n := by rfl) (hj : X.N[j]? = some m := by rfl) (hl : X.N[l]? = some o := by rfl)
    (hx : Loc X.env.scope n := by first | exact Or.inl rfl | exact Or.inr rfl) (hy : Loc X.env.scope m := by first | exact Or.inl rfl | exact Or.inr rfl) (hz : Loc X.env.scope o := by first | exact Or.inl rfl | exact Or.inr rfl)
    (hf : X.fn n = true ∨ X.env.scope.names.lookup n = some .local := by first | exact .inl rfl | exact .inr rfl) (hg : X.fn m = true ∨ X.env.scope.names.lookup m = some .local := by first | exact .inl rfl | exact .inr rfl) (hh : X.fn o = true ∨ X.env.scope.names.lookup o = some .local := by first | exact .inl rfl | exact .inr rfl) :
    Tgt X (.Tuple [.Name n p1, .Name m p2, .Name o p3] kk pos) [i, j, l] (fun (x : T3 α β γ) G => ((G.set i (.im x.a)).set j (.im x.b)).set l (.im x.c)) := fun x v σ H0 G H Q ⟨q, y, z, u, e1, e2, e3, e4, e5⟩ h0 h =>
  pg_out (pg_tup hc (pgs_cons (pg_name hN hi hx hf) (pgs_cons (pg_name hN hj hy hg) (pgs_cons (pg_name hN hl hz hh) pgs_nil)))) ⟨q, [y, z, u], e1, .inl (.inl e2), rfl, y, [z, u], rfl, z, [u], rfl, u, [], rfl, rfl,
    h _ ((((h0.set (s := .im x.a) e3 fun z => z).set (s := .im x.b) e4 fun z => z).set (s := .im x.c) e5 fun z => z)) fun vs hv => by rw [wipe_set (hv l (by simp)), wipe_set (hv j (by simp)), wipe_set (hv i (by simp))]⟩

/-! ### what is walked -/
def tI (X : Cx) (tg iter : Expr) : TI := fun σ H Rr => ∀ pins s, Inv X pins σ H s → wpAny (model X.prog X.w) X.A (eval iter X.env) (fun v s1 => wpAny (model X.prog X.w) X.A (pyIter v) (PIE X pins σ tg Rr) X.xe s1) X.xe s
theorem pi_in {iter : Expr} : PI X tg iter (tI X tg iter) := ⟨fun pins s σ H Rr I h => h pins s I⟩
theorem pi_out {iter : Expr} {wi : TI} {σ : L2.St} {H : Hp} {Rr : It → Hp → Prop} (h : PI X tg iter wi) (q : wi σ H Rr) : tI X tg iter σ H Rr := fun pins s I => h.run pins s σ H Rr I q
/-- the walk of l: it goes while what Hc has stays, each item comes as it is -/
structure Wk {γ : Type} [Im γ] (l : List γ) (J : It) (Hc : Hp) : Prop where
  ex : ∃ (Gd : Hp → Prop) (Y : Nat → Hp → V → Hp → Prop), Walk J l.length Gd Y ∧ (∀ H, Same Hc H → Gd H) ∧ ∀ i H v H', Same Hc H → Y i H v H' → i < l.length → Same H H' ∧ ∃ x, l[i]? = some x ∧ r x v H'
def EI (X : Cx) (H0 : Hp) (G : List Slot) (tg iter : Expr) {γ : Type} [Im γ] (l : List γ) : Prop := ∀ σ H Rr, At H0 G σ H → (∀ J H1, Same H H1 → Wk l J (reb H0 H H1) → Rr J H1) → tI X tg iter σ H Rr
theorem ei_tup {iter : Expr} {γ : Type} [Im γ] {l : List γ} (h : E X H0 G iter (Val l)) : EI X H0 G tg iter l := fun σ H Rr h0 q => pi_out (pi_tup pe_in) (h σ H _ h0 fun v H1 s1 ⟨p, xs, e1, e2, e3⟩ =>
  ⟨p, e1, ⟨xs, .inl (.inl e2)⟩, q _ H1 s1 ⟨fun H => SqT X.K H p xs, YAt xs, (by rw [e3.len]; exact walk_tup (K := X.K) (a := p) (xs := xs)), fun H2 s2 => .inl (.inl (s2 _ _ (reb_cut h0.same _ _ (keep_cut s1 _ _ e2)))), fun i H2 v H3 s2 ⟨y1, y2⟩ _ => by
    subst y1
    obtain ⟨x, y3, y4⟩ := Paired.get2 e3 y2
    exact ⟨Same.refl _, x, y3, Im.keep (KeepT.trans (keep_cut s1) (keepT (Same.trans (reb_cut h0.same) s2))) y4⟩⟩⟩)
theorem ei_old {iter : Expr} {γ : Type} [Im γ] {l : List γ} (h : E X H0 G iter (Old H0 (Lst.mk l))) : EI X H0 G tg iter l := fun σ H Rr h0 q => pi_out (pi_list pe_in) (h σ H _ h0 fun v H1 s1 ⟨p, xs, e1, e2, e3⟩ =>
  ⟨p, e1, ⟨xs, .inl (.inl (s1 _ _ (h0.same _ _ e2)))⟩, q _ H1 s1 ⟨fun H => SqL X.K H p xs, YAt xs, (by rw [A2.len (l := l) e3]; exact walk_list (K := X.K) (a := p) (xs := xs)), fun H2 s2 => .inl (.inl (s2 _ _ (reb_old _ _ e2))), fun i H2 v H3 s2 ⟨y1, y2⟩ _ => by
    subst y1
    obtain ⟨x, y3, y4⟩ := Paired.get2 e3 y2
    exact ⟨Same.refl _, x, y3, Ty.mono (Same.trans reb_old s2) y4⟩⟩⟩)
theorem ei_new {iter : Expr} {γ : Type} [Im γ] {l : List γ} (h : E X H0 G iter (New (Lst.mk l))) : EI X H0 G tg iter l := fun σ H Rr h0 q => pi_out (pi_list pe_in) (h σ H _ h0 fun v H1 s1 ⟨p, xs, e1, e2, e3⟩ =>
  ⟨p, e1, ⟨xs, .inl (.inl (cut_some s1 _ _ e2))⟩, q _ H1 s1 ⟨fun H => SqL X.K H p xs, YAt xs, (by rw [A2.len (l := l) e3]; exact walk_list (K := X.K) (a := p) (xs := xs)), fun H2 s2 => .inl (.inl (s2 _ _ (reb_cut h0.same _ _ e2))), fun i H2 v H3 s2 ⟨y1, y2⟩ _ => by
    subst y1
    obtain ⟨x, y3, y4⟩ := Paired.get2 e3 y2
    exact ⟨Same.refl _, x, y3, Ty.mono (Same.trans (reb_cut h0.same) s2) y4⟩⟩⟩)
def rng (lo : Int) (n : Nat) : List Int := (List.range n).map fun (i : Nat) => lo + (i : Int)
theorem rng_len {lo : Int} {n : Nat} : (rng lo n).length = n := by simp [rng]
theorem rng_get {lo : Int} {n i : Nat} (h : i < n) : (rng lo n)[i]? = some (lo + i) := by simp [rng, h]
theorem rng_walk {lo : Int} {n : Nat} {Hc : Hp} : Wk (rng lo n) (Itr lo n) Hc := ⟨fun _ => True, YFn fun i => .int (lo + i), by rw [rng_len]; exact walk_range, fun _ _ => trivial, fun i H v H' _ ⟨y1, y2⟩ hi => by
  subst y1
  rw [rng_len] at hi
  exact ⟨Same.refl _, _, rng_get hi, y2⟩⟩
theorem ei_rng1 {x : Int} (hm : X.mg "range" = none) (ha : E X H0 G a (Val x)) (hb : -(2 ^ 62) ≤ x ∧ x < 2 ^ 62) (hg : Gl X "range" := by rfl) (hs : starEach [a] X.env = [(false, eval a X.env)] := by rfl) : EI X H0 G tg (.Call (.Name "range" p) [a] [] pos) (rng 0 x.toNat) := fun σ H Rr h0 q =>
  pi_out (pi_range1 hg hm (pa_cons pe_in pa_nil hs) hs) (ha σ H _ h0 fun v H1 s1 p1 => by
    have p1 : v = .int x := p1
    subst p1
    exact ⟨x, rfl, hb.1, hb.2, q _ H1 s1 rng_walk⟩)
theorem ei_rng2 {x y : Int} (hm : X.mg "range" = none) (ha : E X H0 G a (Val x)) (hb : E X H0 G b (Val y)) (hx : -(2 ^ 62) ≤ x ∧ x < 2 ^ 62 ∧ -(2 ^ 62) ≤ y ∧ y < 2 ^ 62) (hg : Gl X "range" := by rfl) (hs : starEach [a, b] X.env = [(false, eval a X.env), (false, eval b X.env)] := by rfl) (hs2 : starEach [b] X.env = [(false, eval b X.env)] := by rfl) :
    EI X H0 G tg (.Call (.Name "range" p) [a, b] [] pos) (rng x (y - x).toNat) := fun σ H Rr h0 q =>
  pi_out (pi_range2 hg hm (pa_cons pe_in (pa_cons pe_in pa_nil hs2) (by rw [hs, hs2])) hs hs2) (ha σ H _ h0 fun v H1 s1 p1 => hb σ H1 _ (h0.ext s1) fun w H2 s2 p2 => by
    have p1 : v = .int x := p1
    have p2 : w = .int y := p2
    subst p1 p2
    exact ⟨x, y, rfl, hx, q _ H2 (Same.trans s1 s2) rng_walk⟩)

/-! ### for -/
/-- at some base above -/
def AtU (H0 : Hp) (G : List Slot) (σ : L2.St) (H : Hp) : Prop := ∃ Hb, Same H0 Hb ∧ At Hb G σ H
theorem AtU.up {H0 Hb : Hp} {G : List Slot} {σ : L2.St} {H : Hp} (s : Same H0 Hb) (h : AtU Hb G σ H) : AtU H0 G σ H := let ⟨Hc, s1, a⟩ := h; ⟨Hc, Same.trans s s1, a⟩
theorem b_for {iter : Expr} {γ : Type} [Im γ] {l : List γ} {js : List Nat} {up : γ → List Slot → List Slot} (hi : EI X H0 G tg iter l) (ht : Tgt X tg js up) (Gs : Nat → List Slot) (h0 : ∀ H0' σ H, At H0' G σ H → At H0' (Gs 0) σ H)
    (hs : ∀ H0', Same H0 H0' → ∀ i x, l[i]? = some x → B X H0' (up x (Gs i)) body { D with nx := AtU H0' (Gs (i + 1)), ct := AtU H0' (Gs (i + 1)), bk := fun σ H => tB X rest D σ H })
    (hd : ∀ H0', Same H0 H0' → B X H0' (Gs l.length) rest D) (hp : PassesOwn (model X.prog X.w) X.A X.env X.xe) (hc : X.calm = true) (hf : ∀ x, foldedSetIterable iter X.env x = pure x := by intro _; rfl) : B X H0 G (.For tg iter body [] pos :: rest) D :=
  B.seq fun σ H a0 => ps_out (ps_for hp hc pi_in pg_in pss_in hf) (hi σ H _ a0 fun J H1 s1 ⟨Gd, Y, w, wg, wy⟩ => by
    have a1 := a0.reb s1
    refine for_it w (fun i σ' H' => AtU (reb H0 H H1) (Gs i) σ' H') ⟨_, Same.refl _, h0 _ _ _ a1⟩ (fun i σ' H' _ ⟨Hb, sb, q⟩ => wg H' (Same.trans sb q.same)) (fun i v σ' H' H2 hil ⟨Hb, sb, q⟩ y => ?_) fun σ' H' ⟨Hb, sb, q⟩ => hd Hb (Same.trans reb_old sb) σ' H' q
    obtain ⟨s2, x, e1, e2⟩ := wy i H' v H2 (Same.trans sb q.same) y hil
    refine ht x v σ' _ _ H2 _ e2 (q.ext s2) fun σ2 q2 _ => ?_
    exact tB_mono (hs Hb (Same.trans reb_old sb) i x e1 σ2 H2 q2) (fun _ _ z => z.up sb) (fun _ _ z => z) (fun _ _ z => z) fun _ _ z => z.up sb)
/-- while -/
def wl {S : Type} (c : S → Bool) (f : S → S) : Nat → S → S
  | 0, s => s
  | n + 1, s => if c s = true then wl c f n (f s) else s
theorem b_while {S : Type} (cS : S → Bool) (fS : S → S) (Gf : S → List Slot) (Iv : S → Prop) (n : Nat) (s0 : S) (h0 : ∀ σ H, At H0 G σ H → At H0 (Gf s0) σ H) (i0 : Iv s0) (hfin : cS (wl cS fS n s0) = false)
    (hc : ∀ H0', Same H0 H0' → ∀ s, Iv s → ET X H0' (Gf s) c (cS s)) (hs : ∀ H0', Same H0 H0' → ∀ s, Iv s → cS s = true → Iv (fS s) ∧ B X H0' (Gf s) body { D with nx := AtU H0' (Gf (fS s)), ct := AtU H0' (Gf (fS s)), bk := fun σ H => tB X rest D σ H })
    (hd : ∀ H0', Same H0 H0' → Iv (wl cS fS n s0) → B X H0' (Gf (wl cS fS n s0)) rest D) (hp : PassesOwn (model X.prog X.w) X.A X.env X.xe) : B X H0 G (.While c body [] pos :: rest) D :=
  B.seq fun σ H a0 => ps_out (ps_while hp pt_in pss_in) (by
    refine ⟨fun m σ' H' => ∃ s Hb, Same H0 Hb ∧ Iv s ∧ At Hb (Gf s) σ' H' ∧ wl cS fS m s = wl cS fS n s0, ⟨n, s0, H0, Same.refl _, i0, h0 _ _ a0, rfl⟩, ?_⟩
    rintro m σ' H' ⟨s, Hb, sb, iv, a1, e⟩
    refine hc Hb sb s iv σ' H' _ a1 fun H2 s2 => ?_
    cases hk : cS s with
    | true =>
      rw [if_pos rfl]
      cases m with
      | zero =>
        have e : s = wl cS fS n s0 := e
        rw [← e, hk] at hfin
        cases hfin
      | succ m =>
        have e : (if cS s = true then wl cS fS m (fS s) else s) = wl cS fS n s0 := e
        rw [if_pos hk] at e
        obtain ⟨iv', b⟩ := hs Hb sb s iv hk
        exact ⟨AtU Hb (Gf (fS s)), fun σ2 H3 ⟨Hc, sc, q⟩ => ⟨m, Nat.lt_succ_self m, _, Hc, Same.trans sb sc, iv', q, e⟩, b σ' H2 (a1.ext s2)⟩
    | false =>
      rw [if_neg (by decide)]
      have e2 : s = wl cS fS n s0 := by
        cases m with
        | zero => exact e
        | succ m =>
          have e : (if cS s = true then wl cS fS m (fS s) else s) = wl cS fS n s0 := e
          rw [if_neg (by rw [hk]; decide)] at e
          exact e
      rw [← e2] at hd
      exact hd Hb sb iv σ' H2 (a1.ext s2))

/-! ### comprehensions -/
def wipeG (G : List Slot) : List Nat → List Slot
  | [] => G
  | v :: vs => (wipeG G vs).set v .no
theorem At.wipe {σ : L2.St} {H : Hp} (h : At H0 G σ H) : ∀ vs : List Nat, At H0 (wipeG G vs) (wipe σ vs) H
  | [] => h
  | v :: vs => (At.wipe h vs).drop
/-- what the comprehension's list holds so far: the items stand apart from it -/
def Got (H : Hp) (Dl : Addr) {α : Type} [Ty α] (l : List α) (Hh : Hp) : Prop := ∃ xs, Hh Dl = some (.lst xs) ∧ ∃ Hc, Same Hc Hh ∧ Hc Dl = none ∧ (∀ b o, Hc b = some o → H b = none ∨ ∃ ys, o = .tup ys) ∧ A2 l xs Hc
theorem lc_walk {γ α : Type} [Im γ] [Ty α] {l : List γ} {J : It} {Hb H1 : Hp} {Dl : Addr} {g : TG} {tt : TT} {te : TE} {vs : List Nat} {σ : L2.St} {Qd : Hp → Prop} (pf : γ → Bool) (ff : γ → α) (W : Wk l J Hb) (sb : Same Hb H1) (hD : H1 Dl = none) (hlen : l.length < 100000)
    (hs : ∀ (i : Nat) (x : γ) v H2, l[i]? = some x → r x v H2 → Same H1 H2 → (∃ ys, H2 Dl = some (.lst ys)) → ∀ (Nx : Hp → Prop), (∀ H3, Same H2 H3 → pf x = false → Nx H3) →
      (∀ H3 y, Same H2 H3 → pf x = true → r (ff x) y (cut H2 H3) → ∃ acc, H3 Dl = some (.lst acc) ∧ acc.length < sizeLine ∧ Nx (upd H3 Dl (.lst (acc ++ [y])))) →
      g v (wipe σ vs) H2 fun σ2 H3 => wipe σ2 vs = wipe σ vs ∧ tt σ2 H3 fun b H4 => if b = true then te σ2 H4 fun y H5 => ∃ acc, H5 Dl = some (.lst acc) ∧ acc.length < sizeLine ∧ Nx (upd H5 Dl (.lst (acc ++ [y]))) else Nx H4)
    (hd : ∀ H2, Same H1 H2 → r (Lst.mk ((l.filter pf).map ff)) (.ref Dl) (cut H1 H2) → Qd H2) :
    ∃ W : Nat → Nat → Hp → Prop, (∃ m, W 0 m (upd H1 Dl (.lst []))) ∧ ∀ i m H, W i m H →
      (J.stop i H ∧ Qd H) ∨ (J.go i H ∧ ∃ Nx : Hp → Prop, (∀ H', Nx H' → ∃ m', m' < m ∧ W (i + 1) m' H') ∧ ∀ x H', J.yld i H x H' → g x (wipe σ vs) H' fun σ2 H2 => wipe σ2 vs = wipe σ vs ∧ tt σ2 H2 fun b H3 =>
        if b = true then te σ2 H3 fun y H4 => ∃ acc, H4 Dl = some (.lst acc) ∧ acc.length < sizeLine ∧ Nx (upd H4 Dl (.lst (acc ++ [y]))) else Nx H3) := by
  obtain ⟨Gd, Y, w, wg, wy⟩ := W
  have nb : Hb Dl = none := Same.free sb hD
  refine lc_it w (fun i H => Same H1 H ∧ Got H1 Dl (((l.take i).filter pf).map ff) H) ⟨Same.new hD, [], upd_same, fun _ => none, (fun b o h => nomatch h), rfl, (fun b o h => nomatch h), Paired.nil⟩ (fun i H _ q => wg H (Same.trans sb q.1)) (fun i v H H2 hil ⟨q1, q2⟩ y => ?_) fun H ⟨q1, q2⟩ => ?_
  · obtain ⟨s2, x, e1, e2⟩ := wy i H v H2 (Same.trans sb q1) y hil
    obtain ⟨xs, g1, Hc, g2, g3, g4, g5⟩ := q2
    have tk : l.take (i + 1) = l.take i ++ [x] := by
      have hi := (List.getElem?_eq_some_iff.mp e1)
      obtain ⟨h1, h2⟩ := hi
      rw [List.take_succ, e1]
      rfl
    refine hs i x v H2 e1 e2 (Same.trans q1 s2) ⟨xs, s2 _ _ g1⟩ _ (fun H3 s3 hf => ⟨Same.trans (Same.trans q1 s2) s3, xs, s3 _ _ (s2 _ _ g1), Hc, Same.trans (Same.trans g2 s2) s3, g3, g4, ?_⟩) fun H3 yv s3 hf ry => ⟨xs, s3 _ _ (s2 _ _ g1), ?_, ?_⟩
    · rw [tk, List.filter_append]
      rw [List.filter_cons, if_neg (by rw [hf]; decide)]
      simpa using g5
    · have h1 := A2.len g5
      rw [← h1, List.length_map]
      have h2 := List.length_filter_le pf (l.take i)
      rw [List.length_take] at h2
      have : sizeLine = 16777216 := by decide
      omega
    · have cutD : cut H2 H3 Dl = none := by
        unfold cut
        rw [s2 _ _ g1]
      have q1' : Same H1 (upd H3 Dl (.lst (xs ++ [yv]))) := fun b o e => by
        rw [upd_ne (ne_of_none e hD)]
        exact s3 _ _ (s2 _ _ (q1 b o e))
      let Hn : Hp := fun b => match Hc b with
        | some o => some o
        | none => cut H2 H3 b
      have hn1 : Same Hc Hn := fun b o e => by
        show (match Hc b with | some o => some o | none => cut H2 H3 b) = some o
        rw [e]
      have hn2 : Same (cut H2 H3) Hn := fun b o e => by
        show (match Hc b with | some o => some o | none => cut H2 H3 b) = some o
        cases h : Hc b with
        | none => exact e
        | some u =>
          have h3 : H3 b = some u := s3 _ _ (s2 _ _ (g2 b u h))
          rw [cut_some s3 b o e] at h3
          cases h3
          rfl
      refine ⟨q1', xs ++ [yv], upd_same, Hn, fun b o e => ?_, ?_, fun b o e => ?_, ?_⟩
      · have e : (match Hc b with | some o => some o | none => cut H2 H3 b) = some o := e
        have nd : b ≠ Dl := fun z => by
          subst z
          rw [g3] at e
          rw [cutD] at e
          cases e
        rw [upd_ne nd]
        cases h : Hc b with
        | none => rw [h] at e; exact cut_some s3 b o e
        | some u => rw [h] at e; cases e; exact s3 _ _ (s2 _ _ (g2 b _ h))
      · show (match Hc Dl with | some o => some o | none => cut H2 H3 Dl) = none
        rw [g3]
        exact cutD
      · have e : (match Hc b with | some o => some o | none => cut H2 H3 b) = some o := e
        cases h : Hc b with
        | some u => rw [h] at e; cases e; exact g4 b _ h
        | none =>
          rw [h] at e
          unfold cut at e
          cases h2 : H2 b with
          | none => exact .inl (Same.free (Same.trans q1 s2) h2)
          | some u =>
            rw [h2] at e
            cases u <;> first
              | (cases e; done)
              | (cases e; exact .inr ⟨_, rfl⟩)
      · rw [tk, List.filter_append, List.map_append]
        refine Paired.app (g5.mono hn1) ?_
        rw [List.filter_cons, if_pos hf]
        exact .cons (Ty.mono hn2 ry) .nil
  · obtain ⟨xs, g1, Hc, g2, g3, g4, g5⟩ := q2
    rw [List.take_length] at g5
    refine hd H q1 ⟨Dl, xs, rfl, cut_new hD g1, A2.mono (fun b o e => ?_) g5⟩
    rcases g4 b o e with h | ⟨ys, rfl⟩
    · exact cut_new h (g2 b o e)
    · exact keep_cut q1 _ _ (g2 b _ e)
theorem wipe_wipe {σ : L2.St} (vs : List Nat) : wipe (wipe σ vs) vs = wipe σ vs := by
  have h : ∀ (us : List Nat) (τ : L2.St), (∀ u ∈ us, u ∈ vs) → wipe (wipe τ us) vs = wipe τ vs := fun us => by
    induction us with
    | nil => intro τ _; rfl
    | cons u us ih =>
      intro τ hu
      show wipe ((wipe τ us).set u none) vs = wipe τ vs
      rw [wipe_set (hu u (by simp)), ih τ fun z hz => hu z (by simp [hz])]
  exact h vs σ fun _ h => h
def gB (X : Cx) (scope : Scope) (tg : Expr) : TG := fun v σ H Q => ∀ (s : Shared) (H' : Hp) (C : Addr) (cl : List (Str × Addr)) (fp : List Addr), tG (X.blk s H' scope (compEnvC scope cl C X.env) fp) tg v σ H Q
def eB (X : Cx) (scope : Scope) (e : Expr) : TE := fun σ H Q => ∀ (s : Shared) (H' : Hp) (C : Addr) (cl : List (Str × Addr)) (fp : List Addr), tE (X.blk s H' scope (compEnvC scope cl C X.env) fp) e σ H Q
def cB (X : Cx) (scope : Scope) (e : Expr) : TT := fun σ H Q => ∀ (s : Shared) (H' : Hp) (C : Addr) (cl : List (Str × Addr)) (fp : List Addr), tT (X.blk s H' scope (compEnvC scope cl C X.env) fp) e σ H Q
theorem new_free0 {H H1 : Hp} {p : Addr} {o : HO} (e : cut H H1 p = some o) (nt : ∀ xs, o ≠ .tup xs) : H p = none := by
  unfold cut at e
  cases h : H p with
  | none => rfl
  | some u =>
    rw [h] at e
    cases u <;> first
      | (cases e; done)
      | (cases e; exact absurd rfl (nt _))
/-- [e for x in it] -/
theorem lc_t {iter elt : Expr} {scope : Scope} {γ α : Type} [Im γ] [Ty α] {l : List γ} {js : List Nat} {up : γ → List Slot → List Slot} {ff : γ → α} (own : List (Str × Nat)) (hN : X.N.Nodup) (hi : EI X H0 G tg iter l) (hlen : l.length < 100000)
    (hg : ∀ (s : Shared) (H : Hp) (C : Addr) (cl : List (Str × Addr)) (fp : List Addr), Tgt (X.blk s H scope (compEnvC scope cl C X.env) fp) tg js up)
    (he : ∀ (s : Shared) (H : Hp) (C : Addr) (cl : List (Str × Addr)) (fp : List Addr) (H0' : Hp), Same H0 H0' → ∀ x, x ∈ l → E (X.blk s H scope (compEnvC scope cl C X.env) fp) H0' (up x (wipeG G (own.map (·.2)))) elt (New (ff x)))
    (ok : blkC X.N X.env.scope scope own = true := by kernel_rfl) (hj : ∀ j ∈ js, j ∈ own.map (·.2) := by decide) (hc : X.calm = true := by rfl) (hs : ∀ x, foldedSetIterable iter X.env x = pure x := by intro _; rfl) : ∀ σ H (Q : VK), At H0 G σ H → (∀ v H', Same H H' → (New (Lst.mk (l.map ff))).p H v H' → Q v H') → tLc (tI X tg iter) (gB X scope tg) tYes (eB X scope elt) (own.map (·.2)) σ H Q := fun σ H Q h0 q => by
  refine (hi σ H _ h0 fun J H1 s1 W => ?_)
  intro Dl hD
  have h1 := h0.reb s1
  refine lc_walk (g := gB X scope tg) (te := eB X scope elt) (tt := tYes) (vs := own.map (·.2)) (σ := σ) (Qd := Q (.ref Dl)) (fun _ => true) ff W (reb_le h0.same s1) hD hlen (fun i x v H2 e1 e2 sb hl Nx n1 n2 => ?_) (fun H2 s2 rr => ?_)
  · intro s H' C cl fp
    refine hg s H' C cl fp x v _ _ _ H2 _ e2 ((h1.ext sb).wipe (own.map (·.2))) fun σ2 a3 hw => ⟨by rw [hw _ hj, wipe_wipe], ?_⟩
    unfold tYes
    refine iteT ?_
    intro s' H'' C' cl' fp'
    exact he s' H'' C' cl' fp' _ reb_old x (List.mem_of_getElem? e1) σ2 H2 _ a3 fun y H5 s5 p5 => n2 H5 y s5 rfl p5
  · rw [show l.filter (fun _ => true) = l by simp] at rr
    exact q _ H2 (Same.trans s1 s2) (Ty.mono (cut_anti s1 s2) rr)
theorem e_lc {iter elt : Expr} {scope : Scope} {γ α : Type} [Im γ] [Ty α] {l : List γ} {js : List Nat} {up : γ → List Slot → List Slot} {ff : γ → α} (own : List (Str × Nat)) (hN : X.N.Nodup) (hi : EI X H0 G tg iter l) (hlen : l.length < 100000)
    (hg : ∀ (s : Shared) (H : Hp) (C : Addr) (cl : List (Str × Addr)) (fp : List Addr), Tgt (X.blk s H scope (compEnvC scope cl C X.env) fp) tg js up)
    (he : ∀ (s : Shared) (H : Hp) (C : Addr) (cl : List (Str × Addr)) (fp : List Addr) (H0' : Hp), Same H0 H0' → ∀ x, x ∈ l → E (X.blk s H scope (compEnvC scope cl C X.env) fp) H0' (up x (wipeG G (own.map (·.2)))) elt (New (ff x)))
    (ok : blkC X.N X.env.scope scope own = true := by kernel_rfl) (hj : ∀ j ∈ js, j ∈ own.map (·.2) := by decide) (hc : X.calm = true := by rfl) (hs : ∀ x, foldedSetIterable iter X.env x = pure x := by intro _; rfl) : E X H0 G (.ListComp elt [⟨tg, iter, [], 0⟩] scope pos) (New (Lst.mk (l.map ff))) := fun σ H Q h0 q =>
  pe_out (pe_lc (g := gB X scope tg) (te := eB X scope elt) hc hN pi_in (blkOk_by ok)
    (fun s H C cl fp => ⟨fun pins s1 σ1 H1 v u Q I rv h => h s H C cl fp pins s1 u I rv⟩) (fun _ _ _ _ _ => pts_nil) (fun s H C cl fp => ⟨fun pins s1 σ1 H1 Q I h => h s H C cl fp pins s1 I⟩) hs) (lc_t own hN hi hlen hg he ok hj hc hs σ H Q h0 q)
/-- [e for x in it if t] -/
theorem lcI_t {iter elt tst : Expr} {scope : Scope} {γ α : Type} [Im γ] [Ty α] {l : List γ} {js : List Nat} {up : γ → List Slot → List Slot} {pf : γ → Bool} {ff : γ → α} (own : List (Str × Nat)) (hN : X.N.Nodup) (hi : EI X H0 G tg iter l) (hlen : l.length < 100000)
    (hg : ∀ (s : Shared) (H : Hp) (C : Addr) (cl : List (Str × Addr)) (fp : List Addr), Tgt (X.blk s H scope (compEnvC scope cl C X.env) fp) tg js up)
    (ht : ∀ (s : Shared) (H : Hp) (C : Addr) (cl : List (Str × Addr)) (fp : List Addr) (H0' : Hp), Same H0 H0' → ∀ x, x ∈ l → ET (X.blk s H scope (compEnvC scope cl C X.env) fp) H0' (up x (wipeG G (own.map (·.2)))) tst (pf x))
    (he : ∀ (s : Shared) (H : Hp) (C : Addr) (cl : List (Str × Addr)) (fp : List Addr) (H0' : Hp), Same H0 H0' → ∀ x, x ∈ l → pf x = true → E (X.blk s H scope (compEnvC scope cl C X.env) fp) H0' (up x (wipeG G (own.map (·.2)))) elt (New (ff x)))
    (ok : blkC X.N X.env.scope scope own = true := by kernel_rfl) (hj : ∀ j ∈ js, j ∈ own.map (·.2) := by decide) (hc : X.calm = true := by rfl) (hs : ∀ x, foldedSetIterable iter X.env x = pure x := by intro _; rfl) : ∀ σ H (Q : VK), At H0 G σ H → (∀ v H', Same H H' → (New (Lst.mk ((l.filter pf).map ff))).p H v H' → Q v H') → tLc (tI X tg iter) (gB X scope tg) (cB X scope tst) (eB X scope elt) (own.map (·.2)) σ H Q := fun σ H Q h0 q => by
  refine (hi σ H _ h0 fun J H1 s1 W => ?_)
  intro Dl hD
  have h1 := h0.reb s1
  refine lc_walk (g := gB X scope tg) (te := eB X scope elt) (tt := cB X scope tst) (vs := own.map (·.2)) (σ := σ) (Qd := Q (.ref Dl)) pf ff W (reb_le h0.same s1) hD hlen (fun i x v H2 e1 e2 sb hl Nx n1 n2 => ?_) (fun H2 s2 rr => ?_)
  · intro s H' C cl fp
    refine hg s H' C cl fp x v _ _ _ H2 _ e2 ((h1.ext sb).wipe (own.map (·.2))) fun σ2 a3 hw => ⟨by rw [hw _ hj, wipe_wipe], ?_⟩
    intro s' H'' C' cl' fp'
    refine ht s' H'' C' cl' fp' _ reb_old x (List.mem_of_getElem? e1) σ2 H2 _ a3 fun H3 s3 => ?_
    cases hk : pf x with
    | false => 
      rw [if_neg (by decide)]
      exact n1 H3 s3 hk
    | true =>
      rw [if_pos rfl]
      intro s' H'' C' cl' fp'
      exact he s' H'' C' cl' fp' _ reb_old x (List.mem_of_getElem? e1) hk σ2 H3 _ (a3.ext s3) fun y H5 s5 p5 => n2 H5 y (Same.trans s3 s5) hk (Ty.mono (cut_anti s3 s5) p5)
  · exact q _ H2 (Same.trans s1 s2) (Ty.mono (cut_anti s1 s2) rr)
theorem e_lcI {iter elt tst : Expr} {scope : Scope} {γ α : Type} [Im γ] [Ty α] {l : List γ} {js : List Nat} {up : γ → List Slot → List Slot} {pf : γ → Bool} {ff : γ → α} (own : List (Str × Nat)) (hN : X.N.Nodup) (hi : EI X H0 G tg iter l) (hlen : l.length < 100000)
    (hg : ∀ (s : Shared) (H : Hp) (C : Addr) (cl : List (Str × Addr)) (fp : List Addr), Tgt (X.blk s H scope (compEnvC scope cl C X.env) fp) tg js up)
    (ht : ∀ (s : Shared) (H : Hp) (C : Addr) (cl : List (Str × Addr)) (fp : List Addr) (H0' : Hp), Same H0 H0' → ∀ x, x ∈ l → ET (X.blk s H scope (compEnvC scope cl C X.env) fp) H0' (up x (wipeG G (own.map (·.2)))) tst (pf x))
    (he : ∀ (s : Shared) (H : Hp) (C : Addr) (cl : List (Str × Addr)) (fp : List Addr) (H0' : Hp), Same H0 H0' → ∀ x, x ∈ l → pf x = true → E (X.blk s H scope (compEnvC scope cl C X.env) fp) H0' (up x (wipeG G (own.map (·.2)))) elt (New (ff x)))
    (ok : blkC X.N X.env.scope scope own = true := by kernel_rfl) (hj : ∀ j ∈ js, j ∈ own.map (·.2) := by decide) (hc : X.calm = true := by rfl) (hs : ∀ x, foldedSetIterable iter X.env x = pure x := by intro _; rfl) : E X H0 G (.ListComp elt [⟨tg, iter, [tst], 0⟩] scope pos) (New (Lst.mk ((l.filter pf).map ff))) := fun σ H Q h0 q =>
  pe_out (pe_lc (g := gB X scope tg) (te := eB X scope elt) (tt := cB X scope tst) hc hN pi_in (blkOk_by ok)
    (fun s H C cl fp => ⟨fun pins s1 σ1 H1 v u Q I rv h => h s H C cl fp pins s1 u I rv⟩) (fun s H C cl fp => pts_one ⟨fun pins s1 σ1 H1 Q I h => h s H C cl fp pins s1 I⟩) (fun s H C cl fp => ⟨fun pins s1 σ1 H1 Q I h => h s H C cl fp pins s1 I⟩) hs) (lcI_t own hN hi hlen hg ht he ok hj hc hs σ H Q h0 q)
/-- x = [..] on one row, x a local -/
theorem b_lc {iter elt : Expr} {scope : Scope} {γ α : Type} [Im γ] [Im α] {l : List γ} {js : List Nat} {up : γ → List Slot → List Slot} {ff : γ → α} {n : Str} {p1 : Pos} (i : Nat) (own : List (Str × Nat)) (hN : X.N.Nodup) (hi : EI X H0 G tg iter l) (hlen : l.length < 100000)
    (hg : ∀ (s : Shared) (H : Hp) (C : Addr) (cl : List (Str × Addr)) (fp : List Addr), Tgt (X.blk s H scope (compEnvC scope cl C X.env) fp) tg js up)
    (he : ∀ (s : Shared) (H : Hp) (C : Addr) (cl : List (Str × Addr)) (fp : List Addr) (H0' : Hp), Same H0 H0' → ∀ x, x ∈ l → E (X.blk s H scope (compEnvC scope cl C X.env) fp) H0' (up x (wipeG G (own.map (·.2)))) elt (New (ff x)))
    (hr : B X H0 (G.set i (.own (l.map ff))) rest D)
    (ok : blkC X.N X.env.scope scope own = true := by kernel_rfl) (hj : ∀ j ∈ js, j ∈ own.map (·.2) := by decide) (hc : X.calm = true := by rfl) (hs : ∀ x, foldedSetIterable iter X.env x = pure x := by intro _; rfl) (hy : X.N[i]? = some n := by rfl) (hyl : X.env.scope.names.lookup n = some .local := by rfl) (hsw : swapsWith (.ListComp elt [⟨tg, iter, [], 0⟩] scope p1) (some (.Name n p)) pos.line X.env = pure true := by rfl) : B X H0 G (.Assign [.Name n p] (.ListComp elt [⟨tg, iter, [], 0⟩] scope p1) pos :: rest) D := B.seq fun σ H h0 =>
  ps_out (ps_setLc (g := gB X scope tg) (te := eB X scope elt) hc hN hy hyl hsw pi_in (blkOk_by ok)
    (fun s H C cl fp => ⟨fun pins s1 σ1 H1 v u Q I rv h => h s H C cl fp pins s1 u I rv⟩) (fun _ _ _ _ _ => pts_nil) (fun s H C cl fp => ⟨fun pins s1 σ1 H1 Q I h => h s H C cl fp pins s1 I⟩) hs) (lc_t own hN hi hlen hg he ok hj hc hs σ H _ h0 fun v H1 s1 p1 => by
    obtain ⟨q, xs, rfl, e1, e2⟩ := p1
    have nq : H q = none := new_free0 e1 fun _ z => nomatch z
    exact hr _ H1 (h0.set_own s1 nq ⟨q, xs, rfl, Same.free h0.same nq, cut_some s1 _ _ e1, A2.mono (l := (l.map ff)) (cut_some s1) e2⟩))
theorem b_lcI {iter elt tst : Expr} {scope : Scope} {γ α : Type} [Im γ] [Im α] {l : List γ} {js : List Nat} {up : γ → List Slot → List Slot} {pf : γ → Bool} {ff : γ → α} {n : Str} {p1 : Pos} (i : Nat) (own : List (Str × Nat)) (hN : X.N.Nodup) (hi : EI X H0 G tg iter l) (hlen : l.length < 100000)
    (hg : ∀ (s : Shared) (H : Hp) (C : Addr) (cl : List (Str × Addr)) (fp : List Addr), Tgt (X.blk s H scope (compEnvC scope cl C X.env) fp) tg js up)
    (ht : ∀ (s : Shared) (H : Hp) (C : Addr) (cl : List (Str × Addr)) (fp : List Addr) (H0' : Hp), Same H0 H0' → ∀ x, x ∈ l → ET (X.blk s H scope (compEnvC scope cl C X.env) fp) H0' (up x (wipeG G (own.map (·.2)))) tst (pf x))
    (he : ∀ (s : Shared) (H : Hp) (C : Addr) (cl : List (Str × Addr)) (fp : List Addr) (H0' : Hp), Same H0 H0' → ∀ x, x ∈ l → pf x = true → E (X.blk s H scope (compEnvC scope cl C X.env) fp) H0' (up x (wipeG G (own.map (·.2)))) elt (New (ff x)))
    (hr : B X H0 (G.set i (.own ((l.filter pf).map ff))) rest D)
    (ok : blkC X.N X.env.scope scope own = true := by kernel_rfl) (hj : ∀ j ∈ js, j ∈ own.map (·.2) := by decide) (hc : X.calm = true := by rfl) (hs : ∀ x, foldedSetIterable iter X.env x = pure x := by intro _; rfl) (hy : X.N[i]? = some n := by rfl) (hyl : X.env.scope.names.lookup n = some .local := by rfl) (hsw : swapsWith (.ListComp elt [⟨tg, iter, [tst], 0⟩] scope p1) (some (.Name n p)) pos.line X.env = pure true := by rfl) : B X H0 G (.Assign [.Name n p] (.ListComp elt [⟨tg, iter, [tst], 0⟩] scope p1) pos :: rest) D := B.seq fun σ H h0 =>
  ps_out (ps_setLc (g := gB X scope tg) (te := eB X scope elt) (tt := cB X scope tst) hc hN hy hyl hsw pi_in (blkOk_by ok)
    (fun s H C cl fp => ⟨fun pins s1 σ1 H1 v u Q I rv h => h s H C cl fp pins s1 u I rv⟩) (fun s H C cl fp => pts_one ⟨fun pins s1 σ1 H1 Q I h => h s H C cl fp pins s1 I⟩) (fun s H C cl fp => ⟨fun pins s1 σ1 H1 Q I h => h s H C cl fp pins s1 I⟩) hs) (lcI_t own hN hi hlen hg ht he ok hj hc hs σ H _ h0 fun v H1 s1 p1 => by
    obtain ⟨q, xs, rfl, e1, e2⟩ := p1
    have nq : H q = none := new_free0 e1 fun _ z => nomatch z
    exact hr _ H1 (h0.set_own s1 nq ⟨q, xs, rfl, Same.free h0.same nq, cut_some s1 _ _ e1, A2.mono (l := ((l.filter pf).map ff)) (cut_some s1) e2⟩))
theorem b_lcO {iter elt : Expr} {scope : Scope} {γ α : Type} [Im γ] [Ty α] {l : List γ} {js : List Nat} {up : γ → List Slot → List Slot} {ff : γ → α} {n : Str} {p1 : Pos} (i : Nat) (own : List (Str × Nat)) (hN : X.N.Nodup) (hi : EI X H0 G tg iter l) (hlen : l.length < 100000)
    (hg : ∀ (s : Shared) (H : Hp) (C : Addr) (cl : List (Str × Addr)) (fp : List Addr), Tgt (X.blk s H scope (compEnvC scope cl C X.env) fp) tg js up)
    (he : ∀ (s : Shared) (H : Hp) (C : Addr) (cl : List (Str × Addr)) (fp : List Addr) (H0' : Hp), Same H0 H0' → ∀ x, x ∈ l → E (X.blk s H scope (compEnvC scope cl C X.env) fp) H0' (up x (wipeG G (own.map (·.2)))) elt (New (ff x)))
    (hr : ∀ H0', Same H0 H0' → B X H0' (G.set i (.old (Lst.mk (l.map ff)))) rest D)
    (ok : blkC X.N X.env.scope scope own = true := by kernel_rfl) (hj : ∀ j ∈ js, j ∈ own.map (·.2) := by decide) (hc : X.calm = true := by rfl) (hs : ∀ x, foldedSetIterable iter X.env x = pure x := by intro _; rfl) (hy : X.N[i]? = some n := by rfl) (hyl : X.env.scope.names.lookup n = some .local := by rfl) (hsw : swapsWith (.ListComp elt [⟨tg, iter, [], 0⟩] scope p1) (some (.Name n p)) pos.line X.env = pure true := by rfl) : B X H0 G (.Assign [.Name n p] (.ListComp elt [⟨tg, iter, [], 0⟩] scope p1) pos :: rest) D := B.seq fun σ H h0 =>
  ps_out (ps_setLc (g := gB X scope tg) (te := eB X scope elt) hc hN hy hyl hsw pi_in (blkOk_by ok)
    (fun s H C cl fp => ⟨fun pins s1 σ1 H1 v u Q I rv h => h s H C cl fp pins s1 u I rv⟩) (fun _ _ _ _ _ => pts_nil) (fun s H C cl fp => ⟨fun pins s1 σ1 H1 Q I h => h s H C cl fp pins s1 I⟩) hs) (lc_t own hN hi hlen hg he ok hj hc hs σ H _ h0 fun v H1 s1 p1 => by
    exact hr (reb H0 H H1) reb_old _ H1 ((h0.reb s1).set (s := .old (Lst.mk (l.map ff))) (Ty.mono (reb_cut h0.same) p1) fun z => z))
theorem b_lcIO {iter elt tst : Expr} {scope : Scope} {γ α : Type} [Im γ] [Ty α] {l : List γ} {js : List Nat} {up : γ → List Slot → List Slot} {pf : γ → Bool} {ff : γ → α} {n : Str} {p1 : Pos} (i : Nat) (own : List (Str × Nat)) (hN : X.N.Nodup) (hi : EI X H0 G tg iter l) (hlen : l.length < 100000)
    (hg : ∀ (s : Shared) (H : Hp) (C : Addr) (cl : List (Str × Addr)) (fp : List Addr), Tgt (X.blk s H scope (compEnvC scope cl C X.env) fp) tg js up)
    (ht : ∀ (s : Shared) (H : Hp) (C : Addr) (cl : List (Str × Addr)) (fp : List Addr) (H0' : Hp), Same H0 H0' → ∀ x, x ∈ l → ET (X.blk s H scope (compEnvC scope cl C X.env) fp) H0' (up x (wipeG G (own.map (·.2)))) tst (pf x))
    (he : ∀ (s : Shared) (H : Hp) (C : Addr) (cl : List (Str × Addr)) (fp : List Addr) (H0' : Hp), Same H0 H0' → ∀ x, x ∈ l → pf x = true → E (X.blk s H scope (compEnvC scope cl C X.env) fp) H0' (up x (wipeG G (own.map (·.2)))) elt (New (ff x)))
    (hr : ∀ H0', Same H0 H0' → B X H0' (G.set i (.old (Lst.mk ((l.filter pf).map ff)))) rest D)
    (ok : blkC X.N X.env.scope scope own = true := by kernel_rfl) (hj : ∀ j ∈ js, j ∈ own.map (·.2) := by decide) (hc : X.calm = true := by rfl) (hs : ∀ x, foldedSetIterable iter X.env x = pure x := by intro _; rfl) (hy : X.N[i]? = some n := by rfl) (hyl : X.env.scope.names.lookup n = some .local := by rfl) (hsw : swapsWith (.ListComp elt [⟨tg, iter, [tst], 0⟩] scope p1) (some (.Name n p)) pos.line X.env = pure true := by rfl) : B X H0 G (.Assign [.Name n p] (.ListComp elt [⟨tg, iter, [tst], 0⟩] scope p1) pos :: rest) D := B.seq fun σ H h0 =>
  ps_out (ps_setLc (g := gB X scope tg) (te := eB X scope elt) (tt := cB X scope tst) hc hN hy hyl hsw pi_in (blkOk_by ok)
    (fun s H C cl fp => ⟨fun pins s1 σ1 H1 v u Q I rv h => h s H C cl fp pins s1 u I rv⟩) (fun s H C cl fp => pts_one ⟨fun pins s1 σ1 H1 Q I h => h s H C cl fp pins s1 I⟩) (fun s H C cl fp => ⟨fun pins s1 σ1 H1 Q I h => h s H C cl fp pins s1 I⟩) hs) (lcI_t own hN hi hlen hg ht he ok hj hc hs σ H _ h0 fun v H1 s1 p1 => by
    exact hr (reb H0 H H1) reb_old _ H1 ((h0.reb s1).set (s := .old (Lst.mk ((l.filter pf).map ff))) (Ty.mono (reb_cut h0.same) p1) fun z => z))
end
end Lk

/-! LkM -/
set_option Elab.async false
set_option linter.all false
set_option maxRecDepth 100000
set_option maxHeartbeats 4000000
set_option autoImplicit false
/-! The layer: built-ins, displays, subscripts. -/
namespace Lk
open PySem PySem.Spec PyProof.Rows L2
open Ty (r)
section
variable {X : Cx} {H0 He : Hp} {G : List Slot} {e a b c d tg : Expr} {es : List Expr} {pos p : Pos} {ρ : Res} {R : Ars} {D : Ends} {st : Stmt} {rest body els : List Stmt} {k : Bool} {x y : Int}
theorem szl {n : Nat} (h : n < 1000000) : n ≤ sizeLine := by
  have : sizeLine = 16777216 := by decide
  omega
theorem A2.ints : ∀ {l : List Int} {xs : List V} {H : Hp}, A2 l xs H → xs = l.map V.int
  | [], _, _, .nil => rfl
  | a :: l, _, H, .cons h t => by
    have h : _ = V.int a := h
    rw [h, A2.ints (l := l) t]
    rfl
theorem A2.of_ints {H : Hp} : ∀ {l : List Int}, A2 l (l.map V.int) H
  | [] => .nil
  | a :: l => .cons rfl A2.of_ints
theorem A2.bools : ∀ {l : List Bool} {xs : List V} {H : Hp}, A2 l xs H → xs = l.map V.bl
  | [], _, _, .nil => rfl
  | a :: l, _, H, .cons h t => by
    have h : _ = V.bl a := h
    rw [h, A2.bools (l := l) t]
    rfl
/-! ### len -/
theorem e_lenT {α : Type} [Im α] {l : List α} (hm : X.mg "len" = none) (ha : E X H0 G a (Val l)) (hl : l.length < 1000000) (hg : Gl X "len" := by rfl) (hs : starEach [a] X.env = (false, eval a X.env) :: starEach [] X.env := by rfl) (hpl : (backTo pos (starEach [] X.env)).any (·.1) = false := by rfl) :
    E X H0 G (.Call (.Name "len" p) [a] [] pos) (Val (l.length : Int)) := e_callB1 call_len hm boot_len ha (fun v H Q ⟨q, xs, e1, e2, e3⟩ k => ⟨v, l.length, rfl, by rw [e1]; exact .inr ⟨xs, .inl (.inl e2), e3.len⟩, k _ H (Same.refl H) rfl⟩) hg (by decide) (by decide) hs hpl
theorem e_lenL {α : Type} [Ty α] {l : List α} (hm : X.mg "len" = none) (ha : E X H0 G a (Val (Lst.mk l))) (hg : Gl X "len" := by rfl) (hs : starEach [a] X.env = (false, eval a X.env) :: starEach [] X.env := by rfl) (hpl : (backTo pos (starEach [] X.env)).any (·.1) = false := by rfl) :
    E X H0 G (.Call (.Name "len" p) [a] [] pos) (Val (l.length : Int)) := e_callB1 call_len hm boot_len ha (fun v H Q ⟨q, xs, e1, e2, e3⟩ k => ⟨v, l.length, rfl, by rw [e1]; exact .inl ⟨xs, .inl (.inl e2), A2.len (l := l) e3⟩, k _ H (Same.refl H) rfl⟩) hg (by decide) (by decide) hs hpl
theorem e_lenK {α : Type} [Ty α] {l : List (Int × α)} (hm : X.mg "len" = none) (ha : E X H0 G a (Val (Dic.mk l))) (hg : Gl X "len" := by rfl) (hs : starEach [a] X.env = (false, eval a X.env) :: starEach [] X.env := by rfl) (hpl : (backTo pos (starEach [] X.env)).any (·.1) = false := by rfl) :
    E X H0 G (.Call (.Name "len" p) [a] [] pos) (Val (l.length : Int)) := e_callB1 call_lenD hm boot_len ha (fun v H Q ⟨q, xs, e1, e2, e3⟩ k => ⟨q, xs, by rw [e1], e2, k _ H (Same.refl H) (by rw [Paired.length e3]; rfl)⟩) hg (by decide) (by decide) hs hpl
theorem e_lenDT {l : List ((Int × Int) × Int)} (hm : X.mg "len" = none) (ha : E X H0 G a (Val (DiT.mk l))) (hg : Gl X "len" := by rfl) (hs : starEach [a] X.env = (false, eval a X.env) :: starEach [] X.env := by rfl) (hpl : (backTo pos (starEach [] X.env)).any (·.1) = false := by rfl) :
    E X H0 G (.Call (.Name "len" p) [a] [] pos) (Val (l.length : Int)) := e_callB1 call_len_dT hm boot_len ha (fun v H Q ⟨q, e1, e2⟩ k => ⟨q, _, by rw [e1], e2, k _ H (Same.refl H) (by simp [dtV]; rfl)⟩) hg (by decide) (by decide) hs hpl
/-! ### tuple(list), list(range), sum, all, any, min, max, int, abs -/
theorem e_tupL {α : Type} [Im α] {l : List α} (hm : X.mg "tuple" = none) (ha : E X H0 G a (Val (Lst.mk l))) (hg : Gl X "tuple" := by rfl) (hs : starEach [a] X.env = (false, eval a X.env) :: starEach [] X.env := by rfl) (hpl : (backTo pos (starEach [] X.env)).any (·.1) = false := by rfl) :
    E X H0 G (.Call (.Name "tuple" p) [a] [] pos) (Val l) := e_callT1 call_tuple_of hm (by decide +kernel) ha (fun v H Q ⟨q, xs, e1, e2, e3⟩ k => ⟨q, xs, by rw [e1], .inl ⟨.inl (.inl e2), fun m hm => k _ _ (Same.new hm) ⟨m, xs, rfl, upd_same, A2.mono (l := l) (Same.new hm) e3⟩⟩⟩) hg (by decide) (by decide) hs hpl
theorem e_tupT {α : Type} [Im α] {l : List α} (hm : X.mg "tuple" = none) (ha : E X H0 G a (Val l)) (hg : Gl X "tuple" := by rfl) (hs : starEach [a] X.env = (false, eval a X.env) :: starEach [] X.env := by rfl) (hpl : (backTo pos (starEach [] X.env)).any (·.1) = false := by rfl) :
    E X H0 G (.Call (.Name "tuple" p) [a] [] pos) (Val l) := e_callT1 call_tuple_of hm (by decide +kernel) ha (fun v H Q ⟨q, xs, e1, e2, e3⟩ k => ⟨q, xs, by rw [e1], .inr ⟨.inl (.inl e2), k _ H (Same.refl H) ⟨q, xs, rfl, e2, e3⟩⟩⟩) hg (by decide) (by decide) hs hpl
theorem e_listRg {p1 q1 : Pos} (hc : X.calm = true) (hm : X.mg "list" = none) (hm2 : X.mg "range" = none) (ha : E X H0 G a (Val x)) (hx : 0 ≤ x ∧ x < 1000000) (hg : Gl X "list" := by rfl) (hg2 : Gl X "range" := by rfl) (hs : starEach [a] X.env = (false, eval a X.env) :: starEach [] X.env := by rfl)
    (na : starEach [.Call (.Name "range" p1) [a] [] q1] X.env = (false, eval (.Call (.Name "range" p1) [a] [] q1) X.env) :: starEach [] X.env := by rfl) : E X H0 G (.Call (.Name "list" p) [.Call (.Name "range" p1) [a] [] q1] [] pos) (New (Lst.mk (rng 0 x.toNat))) := fun σ H Q h0 q =>
  pe_out (pe_listRg hc hg hm (prg_1 hg2 hm2 pe_in hs) na) (ha σ H _ h0 fun v H1 s1 p1 => ⟨x, p1, .of_le (by omega) (by omega) (by omega) (by omega), fun m hm => q _ _ (Same.trans s1 (Same.new hm)) ⟨m, _, rfl, cut_new (Same.free s1 hm) upd_same, by
    have e : rgV 0 x = (rng 0 x.toNat).map V.int := by
      unfold rgV rng
      rw [List.map_map, Int.sub_zero]
      rfl
    rw [e]
    exact A2.of_ints⟩⟩)
theorem e_sum {l : List Int} (hc : X.calm = true) (hm : X.mg "sum" = none) (ha : E X H0 G a (Val (Lst.mk l))) (hg : Gl X "sum" := by rfl) (hs : starEach [a] X.env = (false, eval a X.env) :: starEach [] X.env := by rfl) (hpl : (backTo pos (starEach [] X.env)).any (·.1) = false := by rfl) :
    E X H0 G (.Call (.Name "sum" p) [a] [] pos) (Val l.sum) := e_callB1 (cr_sum hc) hm boot_sum ha (fun v H Q ⟨q, xs, e1, e2, e3⟩ k => ⟨q, l, by rw [e1], .inl (.inl (by rw [e2, A2.ints (l := l) e3])), k _ H (Same.refl H) rfl⟩) hg (by decide) (by decide) hs hpl
theorem e_all {l : List Bool} (hc : X.calm = true) (hm : X.mg "all" = none) (ha : E X H0 G a (Val (Lst.mk l))) (hg : Gl X "all" := by rfl) (hs : starEach [a] X.env = (false, eval a X.env) :: starEach [] X.env := by rfl) (hpl : (backTo pos (starEach [] X.env)).any (·.1) = false := by rfl) :
    E X H0 G (.Call (.Name "all" p) [a] [] pos) (Val (l.all id)) := e_callB1 (cr_all hc) hm (by decide +kernel) ha (fun v H Q ⟨q, xs, e1, e2, e3⟩ k => ⟨q, l, by rw [e1], .inl (.inl (by rw [e2, A2.bools (l := l) e3])), k _ H (Same.refl H) rfl⟩) hg (by decide) (by decide) hs hpl
theorem e_any {l : List Bool} (hc : X.calm = true) (hm : X.mg "any" = none) (ha : E X H0 G a (Val (Lst.mk l))) (hg : Gl X "any" := by rfl) (hs : starEach [a] X.env = (false, eval a X.env) :: starEach [] X.env := by rfl) (hpl : (backTo pos (starEach [] X.env)).any (·.1) = false := by rfl) :
    E X H0 G (.Call (.Name "any" p) [a] [] pos) (Val (l.any id)) := e_callB1 (cr_any hc) hm (by decide +kernel) ha (fun v H Q ⟨q, xs, e1, e2, e3⟩ k => ⟨q, l, by rw [e1], .inl (.inl (by rw [e2, A2.bools (l := l) e3])), k _ H (Same.refl H) rfl⟩) hg (by decide) (by decide) hs hpl
theorem e_min {p1 : Pos} (hc : X.calm = true) (hm : X.mg "min" = none) (ha : E X H0 G a (Val x)) (hb : E X H0 G b (Val y)) (hg : Gl X "min" := by rfl) (hs : starEach [a, b] X.env = (false, eval a X.env) :: starEach [b] X.env := by rfl) (hs2 : starEach [b] X.env = (false, eval b X.env) :: starEach [] X.env := by rfl) (hpl : (backTo pos (starEach [b] X.env)).any (·.1) = false := by rfl) :
    E X H0 G (.Call (.Name "min" p) [a, b] [] pos) (Val (if y < x then y else x)) := e_callB2 (call_min2 hc) hm boot_min ha hb (fun v w H Q h1 h2 k => ⟨x, y, by have h1 : v = .int x := h1; have h2 : w = .int y := h2; rw [h1, h2], k _ H (Same.refl H) rfl⟩) hg (by decide) (by decide) hs hs2 hpl
theorem e_max {p1 : Pos} (hc : X.calm = true) (hm : X.mg "max" = none) (ha : E X H0 G a (Val x)) (hb : E X H0 G b (Val y)) (hg : Gl X "max" := by rfl) (hs : starEach [a, b] X.env = (false, eval a X.env) :: starEach [b] X.env := by rfl) (hs2 : starEach [b] X.env = (false, eval b X.env) :: starEach [] X.env := by rfl) (hpl : (backTo pos (starEach [b] X.env)).any (·.1) = false := by rfl) :
    E X H0 G (.Call (.Name "max" p) [a, b] [] pos) (Val (if y > x then y else x)) := e_callB2 (call_max2 hc) hm (by decide +kernel) ha hb (fun v w H Q h1 h2 k => ⟨x, y, by have h1 : v = .int x := h1; have h2 : w = .int y := h2; rw [h1, h2], k _ H (Same.refl H) rfl⟩) hg (by decide) (by decide) hs hs2 hpl
theorem e_intB (hm : X.mg "int" = none) (ha : E X H0 G a (Val k)) (hg : Gl X "int" := by rfl) (hs : starEach [a] X.env = (false, eval a X.env) :: starEach [] X.env := by rfl) (hpl : (backTo pos (starEach [] X.env)).any (·.1) = false := by rfl) :
    E X H0 G (.Call (.Name "int" p) [a] [] pos) (Val (if k = true then (1 : Int) else 0)) := e_callT1 call_int1 hm (by decide +kernel) ha (fun v H Q h k' => .inr ⟨k, by have h : v = .bl k := h; rw [h], k' _ H (Same.refl H) rfl⟩) hg (by decide) (by decide) hs hpl
theorem e_abs (hm : X.mg "abs" = none) (ha : E X H0 G a (Val x)) (hg : Gl X "abs" := by rfl) (hs : starEach [a] X.env = (false, eval a X.env) :: starEach [] X.env := by rfl) (hpl : (backTo pos (starEach [] X.env)).any (·.1) = false := by rfl) :
    E X H0 G (.Call (.Name "abs" p) [a] [] pos) (Val (if x < 0 then -x else x)) := e_callB1 call_abs hm (by decide +kernel) ha (fun v H Q h k' => ⟨x, by have h : v = .int x := h; rw [h], k' _ H (Same.refl H) rfl⟩) hg (by decide) (by decide) hs hpl
/-! ### isinstance -/
theorem e_isi {α : Type} [Ty α] {z : α} {T S : String} {n : Str} {p1 : Pos} (hm : X.mg "isinstance" = none) (hmT : X.mg n = none) (hvT : bootBuiltins n = some (.type T)) (hk : kitB S T = some k) (ha : E X H0 G a (Val z)) (hty : ∀ v H, r z v H → TyX X.K H v (.type S)) (hg : Gl X "isinstance" := by rfl) (hgT : Gl X n := by rfl) (hnT : n ≠ "__name__" := by decide) (hdT : (n == ("__debug__" : Str)) = false := by decide)
    (hs : starEach [a, .Name n p1] X.env = (false, eval a X.env) :: starEach [.Name n p1] X.env := by rfl) (hs2 : starEach [.Name n p1] X.env = (false, eval (.Name n p1) X.env) :: starEach [] X.env := by rfl) (hpl : (backTo pos (starEach [.Name n p1] X.env)).any (·.1) = false := by rfl) :
    E X H0 G (.Call (.Name "isinstance" p) [a, .Name n p1] [] pos) (Val k) := fun σ H Q h0 q =>
  pe_out (pe_callB call_isi hg hm boot_isinstance (pa_cons pe_in (pa_cons (pe_bltn (v := .ty T) hgT hmT hvT rfl hnT hdT) pa_nil hs2) hs) (by decide) (by decide) hs hpl) (ha σ H _ h0 fun v H1 s1 p1 => ⟨v, .ty T, .type S, .type T, k, rfl, .ty T, hty v H1 p1, kit_ty hk, q _ H1 s1 rfl⟩)
theorem ty_int {z : Int} {K : PySem.W.Frag} : ∀ v H, r z v H → TyX K H v (.type "int") := fun v H h => by
  have h : v = .int z := h
  rw [h]
  exact .base (.int z)
theorem ty_bool {z : Bool} {K : PySem.W.Frag} : ∀ v H, r z v H → TyX K H v (.type "bool") := fun v H h => by
  have h : v = .bl z := h
  rw [h]
  exact .base (.bl z)
theorem ty_tup {α : Type} [Im α] {z : List α} {K : PySem.W.Frag} : ∀ v H, r z v H → TyX K H v (.type "tuple") := fun v H ⟨q, xs, e1, e2, _⟩ => by
  rw [e1]
  exact .base (.tup e2)
/-! ### displays -/
theorem e_tup0 {α : Type} [Im α] {x1 : Nat} : E X H0 G (.Tuple [] x1 pos) (Val ([] : List α)) := fun σ H Q h0 q => pe_out (pe_tup pa_nil) ⟨Nat.zero_le _, fun m hm => q _ _ (Same.new hm) ⟨m, [], rfl, upd_same, .nil⟩⟩
theorem e_tup1 {α : Type} [Im α] {u : α} {x1 : Nat} (ha : E X H0 G a (Val u)) (hs : starEach [a] X.env = (false, eval a X.env) :: starEach [] X.env := by rfl) : E X H0 G (.Tuple [a] x1 pos) (Val [u]) := fun σ H Q h0 q =>
  pe_out (pe_tup (pa_cons pe_in pa_nil hs)) (ha σ H _ h0 fun v H1 s1 p1 => ⟨szl (by show (1 : Nat) < 1000000; decide), fun m hm => q _ _ (Same.trans s1 (Same.new hm)) ⟨m, [v], rfl, upd_same, .cons (Ty.mono (Same.new hm) p1) .nil⟩⟩)
theorem e_tup2 {α β : Type} [Im α] [Im β] {u : α} {w : β} {x1 : Nat} (ha : E X H0 G a (Val u)) (hb : E X H0 G b (Val w)) (hs : starEach [a, b] X.env = (false, eval a X.env) :: starEach [b] X.env := by rfl) (hs2 : starEach [b] X.env = (false, eval b X.env) :: starEach [] X.env := by rfl) : E X H0 G (.Tuple [a, b] x1 pos) (Val (u, w)) := fun σ H Q h0 q =>
  pe_out (pe_tup (pa_cons pe_in (pa_cons pe_in pa_nil hs2) hs)) (ha σ H _ h0 fun v H1 s1 p1 => hb σ H1 _ (h0.ext s1) fun v' H2 s2 p2 => ⟨szl (by show (2 : Nat) < 1000000; decide), fun m hm => q _ _ (Same.trans (Same.trans s1 s2) (Same.new hm)) ⟨m, v, v', rfl, upd_same, Ty.mono (Same.trans s2 (Same.new hm)) p1, Ty.mono (Same.new hm) p2⟩⟩)
theorem e_tup3 {α β γ : Type} [Im α] [Im β] [Im γ] {u : α} {w : β} {z : γ} {x1 : Nat} (ha : E X H0 G a (Val u)) (hb : E X H0 G b (Val w)) (hc : E X H0 G c (Val z)) (hs : starEach [a, b, c] X.env = (false, eval a X.env) :: starEach [b, c] X.env := by rfl) (hs2 : starEach [b, c] X.env = (false, eval b X.env) :: starEach [c] X.env := by rfl) (hs3 : starEach [c] X.env = (false, eval c X.env) :: starEach [] X.env := by rfl) :
    E X H0 G (.Tuple [a, b, c] x1 pos) (Val (T3.mk u w z)) := fun σ H Q h0 q =>
  pe_out (pe_tup (pa_cons pe_in (pa_cons pe_in (pa_cons pe_in pa_nil hs3) hs2) hs)) (ha σ H _ h0 fun v H1 s1 p1 => hb σ H1 _ (h0.ext s1) fun v' H2 s2 p2 => hc σ H2 _ ((h0.ext s1).ext s2) fun v'' H3 s3 p3 => ⟨szl (by show (3 : Nat) < 1000000; decide), fun m hm => q _ _ (Same.trans (Same.trans (Same.trans s1 s2) s3) (Same.new hm))
    ⟨m, v, v', v'', rfl, upd_same, Ty.mono (Same.trans (Same.trans s2 s3) (Same.new hm)) p1, Ty.mono (Same.trans s3 (Same.new hm)) p2, Ty.mono (Same.new hm) p3⟩⟩)
theorem e_lst0 {α : Type} [Ty α] : E X H0 G (.List [] pos) (New (Lst.mk ([] : List α))) := fun σ H Q h0 q => pe_out (pe_lst pa_nil) ⟨Nat.zero_le _, fun m hm => q _ _ (Same.new hm) ⟨m, [], rfl, cut_new hm upd_same, .nil⟩⟩
theorem e_lst1 {α : Type} [Im α] {u : α} (ha : E X H0 G a (Val u)) (hs : starEach [a] X.env = (false, eval a X.env) :: starEach [] X.env := by rfl) : E X H0 G (.List [a] pos) (New (Lst.mk [u])) := fun σ H Q h0 q =>
  pe_out (pe_lst (pa_cons pe_in pa_nil hs)) (ha σ H _ h0 fun v H1 s1 p1 => ⟨szl (by show (1 : Nat) < 1000000; decide), fun m hm => q _ _ (Same.trans s1 (Same.new hm)) ⟨m, [v], rfl, cut_new (Same.free s1 hm) upd_same, .cons (Im.keep (keep_cut (Same.trans s1 (Same.new hm))) (Ty.mono (Same.new hm) p1)) .nil⟩⟩)
/-! ### subscripts -/
theorem atI_A2 {α : Type} [Ty α] {l : List α} {xs : List V} {H : Hp} {i : Int} {u : α} (h : A2 l xs H) (e : atI l i = some u) : ∃ v, atI xs i = some v ∧ r u v H := by
  unfold atI at e ⊢
  rw [← h.len]
  cases hq : ixN l.length i with
  | none => rw [hq] at e; cases e
  | some j =>
    rw [hq] at e
    obtain ⟨v, h1, h2⟩ := Paired.get1 h e
    exact ⟨v, h1, h2⟩
theorem e_ixT {α : Type} [Im α] {l : List α} {u : α} (hu : atI l x = some u) (ha : E X H0 G a (Val l)) (hb : E X H0 G b (Val x)) (hs : PlainIx b := by exact fun _ _ => rfl) : E X H0 G (.Subscript a b pos) (Val u) := fun σ H Q h0 q =>
  pe_out (pe_ix ix_tup pe_in pe_in hs) (ha σ H _ h0 fun v H1 s1 ⟨m, xs, e1, e2, e3⟩ => hb σ H1 _ (h0.ext s1) fun w H2 s2 p2 => by
    obtain ⟨z, q1, q2⟩ := atI_A2 e3 hu
    exact ⟨m, xs, x, z, e1, p2, .inl (.inl (s2 _ _ e2)), q1, q _ H2 (Same.trans s1 s2) (Ty.mono s2 q2)⟩)
theorem e_ixL {α : Type} [Ty α] {l : List α} {u : α} (hu : atI l x = some u) (ha : E X H0 G a (Val (Lst.mk l))) (hb : E X H0 G b (Val x)) (hs : PlainIx b := by exact fun _ _ => rfl) : E X H0 G (.Subscript a b pos) (Val u) := fun σ H Q h0 q =>
  pe_out (pe_ix ix_list pe_in pe_in hs) (ha σ H _ h0 fun v H1 s1 ⟨m, xs, e1, e2, e3⟩ => hb σ H1 _ (h0.ext s1) fun w H2 s2 p2 => by
    obtain ⟨z, q1, q2⟩ := atI_A2 (l := l) e3 hu
    exact ⟨m, xs, x, z, e1, p2, .inl (.inl (s2 _ _ e2)), q1, q _ H2 (Same.trans s1 s2) (Ty.mono s2 q2)⟩)
theorem e_ixO {α : Type} [Ty α] {l : List α} {u : α} (hu : atI l x = some u) (ha : E X H0 G a (Old H0 (Lst.mk l))) (hb : E X H0 G b (Val x)) (hs : PlainIx b := by exact fun _ _ => rfl) : E X H0 G (.Subscript a b pos) (Old H0 u) := fun σ H Q h0 q =>
  pe_out (pe_ix ix_list pe_in pe_in hs) (ha σ H _ h0 fun v H1 s1 ⟨m, xs, e1, e2, e3⟩ => hb σ H1 _ (h0.ext s1) fun w H2 s2 p2 => by
    obtain ⟨z, q1, q2⟩ := atI_A2 (l := l) e3 hu
    exact ⟨m, xs, x, z, e1, p2, .inl (.inl (s2 _ _ (s1 _ _ (h0.same _ _ e2)))), q1, q _ H2 (Same.trans s1 s2) q2⟩)
/-! ### tuples joined, lists joined -/
theorem A2.nil_iff {α : Type} [Ty α] {l : List α} {xs : List V} {H : Hp} (h : A2 l xs H) : xs = [] ↔ l = [] := by
  have := h.len
  constructor
  · intro e
    rw [e] at this
    exact List.eq_nil_of_length_eq_zero this
  · intro e
    rw [e] at this
    exact List.eq_nil_of_length_eq_zero this.symm
theorem e_catT {α : Type} [Im α] {l m : List α} (hl : l.length + m.length < 1000000) (ha : E X H0 G a (Val l)) (hb : E X H0 G b (Val m)) : E X H0 G (.BinOp a .Add b pos) (Val (l ++ m)) := e_op (x := l) (y := m) op_catA (fun v w H Q ⟨p1, xs, a1, a2, a3⟩ ⟨p2, ys, b1, b2, b3⟩ k =>
  ⟨p1, p2, xs, ys, a1, b1, .inl (.inl a2), .inl (.inl b2), szl (by rw [← a3.len, ← b3.len]; exact hl), fun hx => k _ H (Same.refl H) ⟨p2, ys, rfl, b2, by rw [(A2.nil_iff a3).mp hx]; exact b3⟩,
    fun hx hy => k _ H (Same.refl H) ⟨p1, xs, rfl, a2, by rw [(A2.nil_iff b3).mp hy, List.append_nil]; exact a3⟩, fun _ _ q hq => k _ _ (Same.new hq) ⟨q, _, rfl, upd_same, Paired.app (A2.mono (Same.new hq) a3) (A2.mono (Same.new hq) b3)⟩⟩) ha hb
theorem e_catL {α : Type} [Im α] {l m : List α} (hl : l.length + m.length < 1000000) (ha : E X H0 G a (Val (Lst.mk l))) (hb : E X H0 G b (Val (Lst.mk m))) : E X H0 G (.BinOp a .Add b pos) (New (Lst.mk (l ++ m))) := e_op (x := Lst.mk l) (y := Lst.mk m) op_cat (fun v w H Q ⟨p1, xs, a1, a2, a3⟩ ⟨p2, ys, b1, b2, b3⟩ k =>
  ⟨p1, p2, xs, ys, a1, b1, a2, b2, szl (by rw [← A2.len (l := l) a3, ← A2.len (l := m) b3]; exact hl), fun q hq => k _ _ (Same.new hq) ⟨q, _, rfl, cut_new hq upd_same, Paired.app (A2.keep (l := l) (keep_cut (Same.new hq)) (A2.mono (l := l) (Same.new hq) a3)) (A2.keep (l := m) (keep_cut (Same.new hq)) (A2.mono (l := m) (Same.new hq) b3))⟩⟩) ha hb
/-! ### in, not in -/
theorem inV_ints {l : List Int} : inV (.int x) (l.map V.int) = decide (x ∈ l) := by
  unfold inV
  induction l with
  | nil => simp
  | cons z l ih =>
    rw [List.map_cons, List.any_cons, ih]
    show ((z == x) || _) = _
    by_cases h : z = x
    · subst h; simp
    · simp [h, Ne.symm h]
theorem flat_ints {l : List Int} : (l.map V.int).all flatV = true := by
  induction l with
  | nil => rfl
  | cons z l ih => rw [List.map_cons, List.all_cons, ih]; rfl
theorem e_inT {l : List Int} (ha : E X H0 G a (Val x)) (hb : E X H0 G b (Val l)) (hm : behindInMarks .In b = false := by rfl) : E X H0 G (.Compare a [.In] [b] pos) (Val (decide (x ∈ l))) := e_cmp (x := x) (y := l) op_in_seq (fun v w H Q h1 ⟨q, xs, b1, b2, b3⟩ k => by
  have h1 : v = .int x := h1
  have h3 := A2.ints b3
  subst h1 h3
  exact ⟨q, _, b1, .inr (.inl (.inl b2)), rfl, flat_ints, k _ H (Same.refl H) (by show V.bl (if false = true then _ else _) = _; rw [if_neg (by decide), inV_ints])⟩) ha hb hm
theorem e_niT {l : List Int} (ha : E X H0 G a (Val x)) (hb : E X H0 G b (Val l)) (hm : behindInMarks .NotIn b = false := by rfl) : E X H0 G (.Compare a [.NotIn] [b] pos) (Val (!decide (x ∈ l))) := e_cmp (x := x) (y := l) op_notIn_seq (fun v w H Q h1 ⟨q, xs, b1, b2, b3⟩ k => by
  have h1 : v = .int x := h1
  have h3 := A2.ints b3
  subst h1 h3
  exact ⟨q, _, b1, .inr (.inl (.inl b2)), rfl, flat_ints, k _ H (Same.refl H) (by show V.bl (if true = true then _ else _) = _; rw [if_pos rfl, inV_ints])⟩) ha hb hm
theorem e_inL {l : List Int} (ha : E X H0 G a (Val x)) (hb : E X H0 G b (Val (Lst.mk l))) (hm : behindInMarks .In b = false := by rfl) : E X H0 G (.Compare a [.In] [b] pos) (Val (decide (x ∈ l))) := e_cmp (x := x) (y := Lst.mk l) op_in_seq (fun v w H Q h1 ⟨q, xs, b1, b2, b3⟩ k => by
  have h1 : v = .int x := h1
  have h3 := A2.ints (l := l) b3
  subst h1 h3
  exact ⟨q, _, b1, .inl (.inl (.inl b2)), rfl, flat_ints, k _ H (Same.refl H) (by show V.bl (if false = true then _ else _) = _; rw [if_neg (by decide), inV_ints])⟩) ha hb hm
theorem et_niT {l : List Int} (ha : E X H0 G a (Val x)) (hb : E X H0 G b (Val l)) (hm : behindInMarks .NotIn b = false := by rfl) : ET X H0 G (.Compare a [.NotIn] [b] pos) (!decide (x ∈ l)) := et_cmp (x := x) (y := l) op_notIn_seq (fun v w H Q h1 ⟨q, xs, b1, b2, b3⟩ k => by
  have h1 : v = .int x := h1
  have h3 := A2.ints b3
  subst h1 h3
  exact ⟨q, _, b1, .inr (.inl (.inl b2)), rfl, flat_ints, by rw [if_pos rfl, inV_ints]; exact k H (Same.refl H)⟩) ha hb hm
end
end Lk

/-! LkFacts -/
set_option Elab.async false
set_option linter.all false
set_option maxRecDepth 100000
set_option maxHeartbeats 4000000
set_option autoImplicit false
/-! The head's facts by names, the defs' scopes. -/
namespace Lk
open PySem PySem.Spec PyProof.Rows L2
open Ty (r)
structure Tx (K : PySem.W.Frag) (mg : Str → Option Value) : Prop where
  c : He.SaysD fa fn K
  g : ∃ h : Heap, K.In h ∧ h.Ns mainGlobals mg
theorem cal_of {P : Program} {w : World} {K : PySem.W.Frag} {mg : Str → Option Value} {base : Heap} {k : Nat} {x nm qual : Str} {ps : List Str} {sp : Sp} {params : Arguments} {body : List Stmt} {scope : Scope} {f : Addr} {fd : FuncData}
    (F : FunD K nm qual params body scope [] [] f fd) (hm : mg x = some (.ref f)) (ok : FnOk P w K mg base CX0 k f fd ps sp)
    (h : ∀ (kV doc pm : Value) (an : Option Addr) (cdv ct : Value) (us : List Value), us.length = ps.length → bindArgs (PySem.W.fnOf nm qual params body scope .none kV doc pm an cdv ct) ⟨us, []⟩ = pure (ps.zip us)) : Cal P w K mg base k x ps sp :=
  ⟨f, fd, ok, hm, F.kp, F.bindsN h⟩
section
variable {K : PySem.W.Frag} {mg : Str → Option Value}
theorem Tx.g_is_whole (T : Tx K mg) : mg "is_whole" = some (.ref (He.ga K "is_whole")) := let ⟨_, X, G⟩ := T.g; He.glo_ok X G (T.c.fact 0 (f := .glo "is_whole") (by rfl))
theorem Tx.g_choose (T : Tx K mg) : mg "choose" = some (.ref (He.ga K "choose")) := let ⟨_, X, G⟩ := T.g; He.glo_ok X G (T.c.fact 1 (f := .glo "choose") (by rfl))
theorem Tx.g_lot_at (T : Tx K mg) : mg "lot_at" = some (.ref (He.ga K "lot_at")) := let ⟨_, X, G⟩ := T.g; He.glo_ok X G (T.c.fact 2 (f := .glo "lot_at") (by rfl))
theorem Tx.g_number_of (T : Tx K mg) : mg "number_of" = some (.ref (He.ga K "number_of")) := let ⟨_, X, G⟩ := T.g; He.glo_ok X G (T.c.fact 3 (f := .glo "number_of") (by rfl))
theorem Tx.g_lots (T : Tx K mg) : mg "lots" = some (.ref (He.ga K "lots")) := let ⟨_, X, G⟩ := T.g; He.glo_ok X G (T.c.fact 4 (f := .glo "lots") (by rfl))
theorem Tx.g_is_prime (T : Tx K mg) : mg "is_prime" = some (.ref (He.ga K "is_prime")) := let ⟨_, X, G⟩ := T.g; He.glo_ok X G (T.c.fact 5 (f := .glo "is_prime") (by rfl))
theorem Tx.g_is_file (T : Tx K mg) : mg "is_file" = some (.ref (He.ga K "is_file")) := let ⟨_, X, G⟩ := T.g; He.glo_ok X G (T.c.fact 6 (f := .glo "is_file") (by rfl))
theorem Tx.g_piece (T : Tx K mg) : mg "piece" = some (.ref (He.ga K "piece")) := let ⟨_, X, G⟩ := T.g; He.glo_ok X G (T.c.fact 7 (f := .glo "piece") (by rfl))
theorem Tx.g_is_number (T : Tx K mg) : mg "is_number" = some (.ref (He.ga K "is_number")) := let ⟨_, X, G⟩ := T.g; He.glo_ok X G (T.c.fact 8 (f := .glo "is_number") (by rfl))
theorem Tx.g_is_wishes (T : Tx K mg) : mg "is_wishes" = some (.ref (He.ga K "is_wishes")) := let ⟨_, X, G⟩ := T.g; He.glo_ok X G (T.c.fact 9 (f := .glo "is_wishes") (by rfl))
theorem Tx.g_wished (T : Tx K mg) : mg "wished" = some (.ref (He.ga K "wished")) := let ⟨_, X, G⟩ := T.g; He.glo_ok X G (T.c.fact 10 (f := .glo "wished") (by rfl))
theorem Tx.g_first_wishers (T : Tx K mg) : mg "first_wishers" = some (.ref (He.ga K "first_wishers")) := let ⟨_, X, G⟩ := T.g; He.glo_ok X G (T.c.fact 11 (f := .glo "first_wishers") (by rfl))
theorem Tx.g_leaders (T : Tx K mg) : mg "leaders" = some (.ref (He.ga K "leaders")) := let ⟨_, X, G⟩ := T.g; He.glo_ok X G (T.c.fact 12 (f := .glo "leaders") (by rfl))
theorem Tx.g_plain_hands (T : Tx K mg) : mg "plain_hands" = some (.ref (He.ga K "plain_hands")) := let ⟨_, X, G⟩ := T.g; He.glo_ok X G (T.c.fact 13 (f := .glo "plain_hands") (by rfl))
theorem Tx.g_made (T : Tx K mg) : mg "made" = some (.ref (He.ga K "made")) := let ⟨_, X, G⟩ := T.g; He.glo_ok X G (T.c.fact 14 (f := .glo "made") (by rfl))
theorem Tx.g_made_with (T : Tx K mg) : mg "made_with" = some (.ref (He.ga K "made_with")) := let ⟨_, X, G⟩ := T.g; He.glo_ok X G (T.c.fact 15 (f := .glo "made_with") (by rfl))
theorem Tx.g_next_hand (T : Tx K mg) : mg "next_hand" = some (.ref (He.ga K "next_hand")) := let ⟨_, X, G⟩ := T.g; He.glo_ok X G (T.c.fact 16 (f := .glo "next_hand") (by rfl))
theorem Tx.g_made_at (T : Tx K mg) : mg "made_at" = some (.ref (He.ga K "made_at")) := let ⟨_, X, G⟩ := T.g; He.glo_ok X G (T.c.fact 17 (f := .glo "made_at") (by rfl))
theorem Tx.g_sign_of (T : Tx K mg) : mg "sign_of" = some (.ref (He.ga K "sign_of")) := let ⟨_, X, G⟩ := T.g; He.glo_ok X G (T.c.fact 18 (f := .glo "sign_of") (by rfl))
theorem Tx.g_sign (T : Tx K mg) : mg "sign" = some (.ref (He.ga K "sign")) := let ⟨_, X, G⟩ := T.g; He.glo_ok X G (T.c.fact 19 (f := .glo "sign") (by rfl))
theorem Tx.g_without (T : Tx K mg) : mg "without" = some (.ref (He.ga K "without")) := let ⟨_, X, G⟩ := T.g; He.glo_ok X G (T.c.fact 20 (f := .glo "without") (by rfl))
theorem Tx.g_with_hand (T : Tx K mg) : mg "with_hand" = some (.ref (He.ga K "with_hand")) := let ⟨_, X, G⟩ := T.g; He.glo_ok X G (T.c.fact 21 (f := .glo "with_hand") (by rfl))
theorem Tx.g_terms (T : Tx K mg) : mg "terms" = some (.ref (He.ga K "terms")) := let ⟨_, X, G⟩ := T.g; He.glo_ok X G (T.c.fact 22 (f := .glo "terms") (by rfl))
theorem Tx.g_cry (T : Tx K mg) : mg "cry" = some (.ref (He.ga K "cry")) := let ⟨_, X, G⟩ := T.g; He.glo_ok X G (T.c.fact 23 (f := .glo "cry") (by rfl))
theorem Tx.g_made_lots (T : Tx K mg) : mg "made_lots" = some (.ref (He.ga K "made_lots")) := let ⟨_, X, G⟩ := T.g; He.glo_ok X G (T.c.fact 24 (f := .glo "made_lots") (by rfl))
theorem Tx.g_cries (T : Tx K mg) : mg "cries" = some (.ref (He.ga K "cries")) := let ⟨_, X, G⟩ := T.g; He.glo_ok X G (T.c.fact 25 (f := .glo "cries") (by rfl))
theorem Tx.g_inverse (T : Tx K mg) : mg "inverse" = some (.ref (He.ga K "inverse")) := let ⟨_, X, G⟩ := T.g; He.glo_ok X G (T.c.fact 26 (f := .glo "inverse") (by rfl))
theorem Tx.g_lessened (T : Tx K mg) : mg "lessened" = some (.ref (He.ga K "lessened")) := let ⟨_, X, G⟩ := T.g; He.glo_ok X G (T.c.fact 27 (f := .glo "lessened") (by rfl))
theorem Tx.g_weights_at (T : Tx K mg) : mg "weights_at" = some (.ref (He.ga K "weights_at")) := let ⟨_, X, G⟩ := T.g; He.glo_ok X G (T.c.fact 28 (f := .glo "weights_at") (by rfl))
theorem Tx.g_weighed_sum (T : Tx K mg) : mg "weighed_sum" = some (.ref (He.ga K "weighed_sum")) := let ⟨_, X, G⟩ := T.g; He.glo_ok X G (T.c.fact 29 (f := .glo "weighed_sum") (by rfl))
theorem Tx.g_place_weights (T : Tx K mg) : mg "place_weights" = some (.ref (He.ga K "place_weights")) := let ⟨_, X, G⟩ := T.g; He.glo_ok X G (T.c.fact 30 (f := .glo "place_weights") (by rfl))
theorem Tx.g_spare (T : Tx K mg) : mg "spare" = some (.ref (He.ga K "spare")) := let ⟨_, X, G⟩ := T.g; He.glo_ok X G (T.c.fact 31 (f := .glo "spare") (by rfl))
theorem Tx.g_with_spares (T : Tx K mg) : mg "with_spares" = some (.ref (He.ga K "with_spares")) := let ⟨_, X, G⟩ := T.g; He.glo_ok X G (T.c.fact 32 (f := .glo "with_spares") (by rfl))
theorem Tx.g_has (T : Tx K mg) : mg "has" = some (.ref (He.ga K "has")) := let ⟨_, X, G⟩ := T.g; He.glo_ok X G (T.c.fact 33 (f := .glo "has") (by rfl))
theorem Tx.g_shelf (T : Tx K mg) : mg "shelf" = some (.ref (He.ga K "shelf")) := let ⟨_, X, G⟩ := T.g; He.glo_ok X G (T.c.fact 34 (f := .glo "shelf") (by rfl))
theorem Tx.g_own_number (T : Tx K mg) : mg "own_number" = some (.ref (He.ga K "own_number")) := let ⟨_, X, G⟩ := T.g; He.glo_ok X G (T.c.fact 35 (f := .glo "own_number") (by rfl))
theorem Tx.g_lacked (T : Tx K mg) : mg "lacked" = some (.ref (He.ga K "lacked")) := let ⟨_, X, G⟩ := T.g; He.glo_ok X G (T.c.fact 36 (f := .glo "lacked") (by rfl))
theorem Tx.g_row_of (T : Tx K mg) : mg "row_of" = some (.ref (He.ga K "row_of")) := let ⟨_, X, G⟩ := T.g; He.glo_ok X G (T.c.fact 37 (f := .glo "row_of") (by rfl))
theorem Tx.g_known_by (T : Tx K mg) : mg "known_by" = some (.ref (He.ga K "known_by")) := let ⟨_, X, G⟩ := T.g; He.glo_ok X G (T.c.fact 38 (f := .glo "known_by") (by rfl))
theorem Tx.g_is_within (T : Tx K mg) : mg "is_within" = some (.ref (He.ga K "is_within")) := let ⟨_, X, G⟩ := T.g; He.glo_ok X G (T.c.fact 39 (f := .glo "is_within") (by rfl))
theorem Tx.g_may_be_spares (T : Tx K mg) : mg "may_be_spares" = some (.ref (He.ga K "may_be_spares")) := let ⟨_, X, G⟩ := T.g; He.glo_ok X G (T.c.fact 40 (f := .glo "may_be_spares") (by rfl))
theorem Tx.g_law_pot (T : Tx K mg) : mg "_law_pot" = some (.ref (He.ga K "_law_pot")) := let ⟨_, X, G⟩ := T.g; He.glo_ok X G (T.c.fact 41 (f := .glo "_law_pot") (by rfl))
theorem Tx.g_law_take (T : Tx K mg) : mg "_law_take" = some (.ref (He.ga K "_law_take")) := let ⟨_, X, G⟩ := T.g; He.glo_ok X G (T.c.fact 42 (f := .glo "_law_take") (by rfl))
theorem Tx.g_law_of (T : Tx K mg) : mg "_law_of" = some (.ref (He.ga K "_law_of")) := let ⟨_, X, G⟩ := T.g; He.glo_ok X G (T.c.fact 43 (f := .glo "_law_of") (by rfl))
theorem Tx.g_law_lots (T : Tx K mg) : mg "_law_lots" = some (.ref (He.ga K "_law_lots")) := let ⟨_, X, G⟩ := T.g; He.glo_ok X G (T.c.fact 44 (f := .glo "_law_lots") (by rfl))
theorem Tx.g_law_leaders (T : Tx K mg) : mg "_law_leaders" = some (.ref (He.ga K "_law_leaders")) := let ⟨_, X, G⟩ := T.g; He.glo_ok X G (T.c.fact 45 (f := .glo "_law_leaders") (by rfl))
theorem Tx.g_law_made (T : Tx K mg) : mg "_law_made" = some (.ref (He.ga K "_law_made")) := let ⟨_, X, G⟩ := T.g; He.glo_ok X G (T.c.fact 46 (f := .glo "_law_made") (by rfl))
theorem Tx.g_law_files (T : Tx K mg) : mg "_law_files" = some (.ref (He.ga K "_law_files")) := let ⟨_, X, G⟩ := T.g; He.glo_ok X G (T.c.fact 47 (f := .glo "_law_files") (by rfl))
theorem Tx.g_law_third (T : Tx K mg) : mg "_law_third" = some (.ref (He.ga K "_law_third")) := let ⟨_, X, G⟩ := T.g; He.glo_ok X G (T.c.fact 48 (f := .glo "_law_third") (by rfl))
theorem Tx.g_law_alike (T : Tx K mg) : mg "_law_alike" = some (.ref (He.ga K "_law_alike")) := let ⟨_, X, G⟩ := T.g; He.glo_ok X G (T.c.fact 49 (f := .glo "_law_alike") (by rfl))
theorem Tx.g_law (T : Tx K mg) : mg "law" = some (.ref (He.ga K "law")) := let ⟨_, X, G⟩ := T.g; He.glo_ok X G (T.c.fact 50 (f := .glo "law") (by rfl))
theorem Tx.g_shelf_shelves (T : Tx K mg) : mg "shelf_shelves" = some (.ref (He.ga K "shelf_shelves")) := let ⟨_, X, G⟩ := T.g; He.glo_ok X G (T.c.fact 51 (f := .glo "shelf_shelves") (by rfl))
theorem Tx.g_Solving (T : Tx K mg) : mg "Solving" = some (.ref (He.ga K "Solving")) := let ⟨_, X, G⟩ := T.g; He.glo_ok X G (T.c.fact 52 (f := .glo "Solving") (by rfl))
theorem Tx.g_Day (T : Tx K mg) : mg "Day" = some (.ref (He.ga K "Day")) := let ⟨_, X, G⟩ := T.g; He.glo_ok X G (T.c.fact 53 (f := .glo "Day") (by rfl))
theorem Tx.g_House (T : Tx K mg) : mg "House" = some (.ref (He.ga K "House")) := let ⟨_, X, G⟩ := T.g; He.glo_ok X G (T.c.fact 54 (f := .glo "House") (by rfl))
theorem Tx.m_isinstance (T : Tx K mg) : mg "isinstance" = none := let ⟨_, X, G⟩ := T.g; He.free_ok X G (T.c.fact 55 (f := .free "isinstance") (by rfl))
theorem Tx.m_int (T : Tx K mg) : mg "int" = none := let ⟨_, X, G⟩ := T.g; He.free_ok X G (T.c.fact 56 (f := .free "int") (by rfl))
theorem Tx.m_bool (T : Tx K mg) : mg "bool" = none := let ⟨_, X, G⟩ := T.g; He.free_ok X G (T.c.fact 57 (f := .free "bool") (by rfl))
theorem Tx.m_tuple (T : Tx K mg) : mg "tuple" = none := let ⟨_, X, G⟩ := T.g; He.free_ok X G (T.c.fact 58 (f := .free "tuple") (by rfl))
theorem Tx.m_len (T : Tx K mg) : mg "len" = none := let ⟨_, X, G⟩ := T.g; He.free_ok X G (T.c.fact 59 (f := .free "len") (by rfl))
theorem Tx.m_all (T : Tx K mg) : mg "all" = none := let ⟨_, X, G⟩ := T.g; He.free_ok X G (T.c.fact 60 (f := .free "all") (by rfl))
theorem Tx.m_any (T : Tx K mg) : mg "any" = none := let ⟨_, X, G⟩ := T.g; He.free_ok X G (T.c.fact 61 (f := .free "any") (by rfl))
theorem Tx.m_min (T : Tx K mg) : mg "min" = none := let ⟨_, X, G⟩ := T.g; He.free_ok X G (T.c.fact 62 (f := .free "min") (by rfl))
theorem Tx.m_max (T : Tx K mg) : mg "max" = none := let ⟨_, X, G⟩ := T.g; He.free_ok X G (T.c.fact 63 (f := .free "max") (by rfl))
theorem Tx.m_range (T : Tx K mg) : mg "range" = none := let ⟨_, X, G⟩ := T.g; He.free_ok X G (T.c.fact 64 (f := .free "range") (by rfl))
theorem Tx.m_sorted (T : Tx K mg) : mg "sorted" = none := let ⟨_, X, G⟩ := T.g; He.free_ok X G (T.c.fact 65 (f := .free "sorted") (by rfl))
theorem Tx.m_enumerate (T : Tx K mg) : mg "enumerate" = none := let ⟨_, X, G⟩ := T.g; He.free_ok X G (T.c.fact 66 (f := .free "enumerate") (by rfl))
theorem Tx.m_zip (T : Tx K mg) : mg "zip" = none := let ⟨_, X, G⟩ := T.g; He.free_ok X G (T.c.fact 67 (f := .free "zip") (by rfl))
theorem Tx.m_sum (T : Tx K mg) : mg "sum" = none := let ⟨_, X, G⟩ := T.g; He.free_ok X G (T.c.fact 68 (f := .free "sum") (by rfl))
theorem Tx.m_abs (T : Tx K mg) : mg "abs" = none := let ⟨_, X, G⟩ := T.g; He.free_ok X G (T.c.fact 69 (f := .free "abs") (by rfl))
theorem Tx.m_list (T : Tx K mg) : mg "list" = none := let ⟨_, X, G⟩ := T.g; He.free_ok X G (T.c.fact 70 (f := .free "list") (by rfl))
theorem Tx.m_repr (T : Tx K mg) : mg "repr" = none := let ⟨_, X, G⟩ := T.g; He.free_ok X G (T.c.fact 71 (f := .free "repr") (by rfl))
theorem Tx.n_MOST_TOLD (T : Tx K mg) : ∃ t, mg "MOST_TOLD" = some (.int 2000 t) := let ⟨_, X, G⟩ := T.g; He.int_ok X G (T.c.fact 72 (f := .int "MOST_TOLD" 2000) (by rfl))
theorem Tx.n_MOST_MADE (T : Tx K mg) : ∃ t, mg "MOST_MADE" = some (.int 2000 t) := let ⟨_, X, G⟩ := T.g; He.int_ok X G (T.c.fact 73 (f := .int "MOST_MADE" 2000) (by rfl))
theorem Tx.n_MOST_HANDS (T : Tx K mg) : ∃ t, mg "MOST_HANDS" = some (.int 6 t) := let ⟨_, X, G⟩ := T.g; He.int_ok X G (T.c.fact 74 (f := .int "MOST_HANDS" 6) (by rfl))
theorem Tx.n_MOST_SPARES (T : Tx K mg) : ∃ t, mg "MOST_SPARES" = some (.int 1000 t) := let ⟨_, X, G⟩ := T.g; He.int_ok X G (T.c.fact 75 (f := .int "MOST_SPARES" 1000) (by rfl))
theorem Tx.n_P_END (T : Tx K mg) : ∃ t, mg "P_END" = some (.int 1000000000 t) := let ⟨_, X, G⟩ := T.g; He.int_ok X G (T.c.fact 76 (f := .int "P_END" 1000000000) (by rfl))
theorem Tx.c_Solving (T : Tx K mg) : Cls K (He.ga K "Solving") := He.cls_ok (T.c.fact 77 (f := .cls "Solving") (by rfl))
theorem Tx.k_Solving (T : Tx K mg) : Mk K (He.ga K "Solving") (He.ma K (He.ga K "Solving") "__init__") := He.mkr_ok (T.c.fact 78 (f := .mkr "Solving") (by rfl))
theorem Tx.a_Solving_field (T : Tx K mg) : NoAttr K (He.ga K "Solving") "field" := He.noat_ok (T.c.fact 79 (f := .noat "Solving" "field") (by rfl))
theorem Tx.a_Solving_width (T : Tx K mg) : NoAttr K (He.ga K "Solving") "width" := He.noat_ok (T.c.fact 80 (f := .noat "Solving" "width") (by rfl))
theorem Tx.a_Solving_lines (T : Tx K mg) : NoAttr K (He.ga K "Solving") "lines" := He.noat_ok (T.c.fact 81 (f := .noat "Solving" "lines") (by rfl))
theorem Tx.a_Solving_line_of (T : Tx K mg) : NoAttr K (He.ga K "Solving") "line_of" := He.noat_ok (T.c.fact 82 (f := .noat "Solving" "line_of") (by rfl))
theorem Tx.c_Day (T : Tx K mg) : Cls K (He.ga K "Day") := He.cls_ok (T.c.fact 83 (f := .cls "Day") (by rfl))
theorem Tx.k_Day (T : Tx K mg) : Mk K (He.ga K "Day") (He.ma K (He.ga K "Day") "__init__") := He.mkr_ok (T.c.fact 84 (f := .mkr "Day") (by rfl))
theorem Tx.a_Day_day_wishes (T : Tx K mg) : NoAttr K (He.ga K "Day") "day_wishes" := He.noat_ok (T.c.fact 85 (f := .noat "Day" "day_wishes") (by rfl))
theorem Tx.a_Day_day_spares (T : Tx K mg) : NoAttr K (He.ga K "Day") "day_spares" := He.noat_ok (T.c.fact 86 (f := .noat "Day" "day_spares") (by rfl))
theorem Tx.a_Day_day_files (T : Tx K mg) : NoAttr K (He.ga K "Day") "day_files" := He.noat_ok (T.c.fact 87 (f := .noat "Day" "day_files") (by rfl))
theorem Tx.a_Day_day_heard (T : Tx K mg) : NoAttr K (He.ga K "Day") "day_heard" := He.noat_ok (T.c.fact 88 (f := .noat "Day" "day_heard") (by rfl))
theorem Tx.c_House (T : Tx K mg) : Cls K (He.ga K "House") := He.cls_ok (T.c.fact 89 (f := .cls "House") (by rfl))
theorem Tx.k_House (T : Tx K mg) : Mk K (He.ga K "House") (He.ma K (He.ga K "House") "__init__") := He.mkr_ok (T.c.fact 90 (f := .mkr "House") (by rfl))
theorem Tx.a_House_house_hands (T : Tx K mg) : NoAttr K (He.ga K "House") "house_hands" := He.noat_ok (T.c.fact 91 (f := .noat "House" "house_hands") (by rfl))
theorem Tx.a_House_house_t (T : Tx K mg) : NoAttr K (He.ga K "House") "house_t" := He.noat_ok (T.c.fact 92 (f := .noat "House" "house_t") (by rfl))
theorem Tx.a_House_house_p (T : Tx K mg) : NoAttr K (He.ga K "House") "house_p" := He.noat_ok (T.c.fact 93 (f := .noat "House" "house_p") (by rfl))
theorem Tx.a_House_house_next (T : Tx K mg) : NoAttr K (He.ga K "House") "house_next" := He.noat_ok (T.c.fact 94 (f := .noat "House" "house_next") (by rfl))
theorem Tx.a_House_house_files (T : Tx K mg) : NoAttr K (He.ga K "House") "house_files" := He.noat_ok (T.c.fact 95 (f := .noat "House" "house_files") (by rfl))
theorem Tx.a_House_house_away (T : Tx K mg) : NoAttr K (He.ga K "House") "house_away" := He.noat_ok (T.c.fact 96 (f := .noat "House" "house_away") (by rfl))
theorem Tx.a_House_house_by_day (T : Tx K mg) : NoAttr K (He.ga K "House") "house_by_day" := He.noat_ok (T.c.fact 97 (f := .noat "House" "house_by_day") (by rfl))
theorem Tx.a_House_house_day (T : Tx K mg) : NoAttr K (He.ga K "House") "house_day" := He.noat_ok (T.c.fact 98 (f := .noat "House" "house_day") (by rfl))
theorem Tx.a_House_house_cries (T : Tx K mg) : NoAttr K (He.ga K "House") "house_cries" := He.noat_ok (T.c.fact 99 (f := .noat "House" "house_cries") (by rfl))
theorem Tx.e_Solving_clear (T : Tx K mg) : Meth K (He.ga K "Solving") "clear" (He.ma K (He.ga K "Solving") "clear") := He.meth_ok (T.c.fact 100 (f := .meth "Solving" "clear") (by rfl))
theorem Tx.e_Solving_others_in (T : Tx K mg) : Meth K (He.ga K "Solving") "others_in" (He.ma K (He.ga K "Solving") "others_in") := He.meth_ok (T.c.fact 101 (f := .meth "Solving" "others_in") (by rfl))
theorem Tx.e_Solving_is_single (T : Tx K mg) : Meth K (He.ga K "Solving") "is_single" (He.ma K (He.ga K "Solving") "is_single") := He.meth_ok (T.c.fact 102 (f := .meth "Solving" "is_single") (by rfl))
theorem Tx.e_Solving_behind (T : Tx K mg) : Meth K (He.ga K "Solving") "behind" (He.ma K (He.ga K "Solving") "behind") := He.meth_ok (T.c.fact 103 (f := .meth "Solving" "behind") (by rfl))
theorem Tx.e_House_set_day (T : Tx K mg) : Meth K (He.ga K "House") "set_day" (He.ma K (He.ga K "House") "set_day") := He.meth_ok (T.c.fact 104 (f := .meth "House" "set_day") (by rfl))
theorem Tx.e_House_refuse_by_day (T : Tx K mg) : Meth K (He.ga K "House") "refuse_by_day" (He.ma K (He.ga K "House") "refuse_by_day") := He.meth_ok (T.c.fact 105 (f := .meth "House" "refuse_by_day") (by rfl))
theorem Tx.e_House_refuse_no_hand (T : Tx K mg) : Meth K (He.ga K "House") "refuse_no_hand" (He.ma K (He.ga K "House") "refuse_no_hand") := He.meth_ok (T.c.fact 106 (f := .meth "House" "refuse_no_hand") (by rfl))
theorem Tx.e_House_bring (T : Tx K mg) : Meth K (He.ga K "House") "bring" (He.ma K (He.ga K "House") "bring") := He.meth_ok (T.c.fact 107 (f := .meth "House" "bring") (by rfl))
theorem Tx.e_House_drop (T : Tx K mg) : Meth K (He.ga K "House") "drop" (He.ma K (He.ga K "House") "drop") := He.meth_ok (T.c.fact 108 (f := .meth "House" "drop") (by rfl))
theorem Tx.e_House_files (T : Tx K mg) : Meth K (He.ga K "House") "files" (He.ma K (He.ga K "House") "files") := He.meth_ok (T.c.fact 109 (f := .meth "House" "files") (by rfl))
theorem Tx.e_House_day (T : Tx K mg) : Meth K (He.ga K "House") "day" (He.ma K (He.ga K "House") "day") := He.meth_ok (T.c.fact 110 (f := .meth "House" "day") (by rfl))
theorem Tx.e_House_next_number (T : Tx K mg) : Meth K (He.ga K "House") "next_number" (He.ma K (He.ga K "House") "next_number") := He.meth_ok (T.c.fact 111 (f := .meth "House" "next_number") (by rfl))
theorem Tx.e_House_call (T : Tx K mg) : Meth K (He.ga K "House") "call" (He.ma K (He.ga K "House") "call") := He.meth_ok (T.c.fact 112 (f := .meth "House" "call") (by rfl))
theorem Tx.e_House_away (T : Tx K mg) : Meth K (He.ga K "House") "away" (He.ma K (He.ga K "House") "away") := He.meth_ok (T.c.fact 113 (f := .meth "House" "away") (by rfl))
theorem Tx.e_House_home (T : Tx K mg) : Meth K (He.ga K "House") "home" (He.ma K (He.ga K "House") "home") := He.meth_ok (T.c.fact 114 (f := .meth "House" "home") (by rfl))
theorem Tx.e_House_night (T : Tx K mg) : Meth K (He.ga K "House") "night" (He.ma K (He.ga K "House") "night") := He.meth_ok (T.c.fact 115 (f := .meth "House" "night") (by rfl))
theorem Tx.e_House_heard (T : Tx K mg) : Meth K (He.ga K "House") "heard" (He.ma K (He.ga K "House") "heard") := He.meth_ok (T.c.fact 116 (f := .meth "House" "heard") (by rfl))
theorem Tx.e_House_weights_of (T : Tx K mg) : Meth K (He.ga K "House") "weights_of" (He.ma K (He.ga K "House") "weights_of") := He.meth_ok (T.c.fact 117 (f := .meth "House" "weights_of") (by rfl))
theorem Tx.e_House_pieces (T : Tx K mg) : Meth K (He.ga K "House") "pieces" (He.ma K (He.ga K "House") "pieces") := He.meth_ok (T.c.fact 118 (f := .meth "House" "pieces") (by rfl))
theorem Tx.e_House_knows (T : Tx K mg) : Meth K (He.ga K "House") "knows" (He.ma K (He.ga K "House") "knows") := He.meth_ok (T.c.fact 119 (f := .meth "House" "knows") (by rfl))
theorem Tx.f_is_whole (T : Tx K mg) : ∃ fd, FunD K "is_whole" "is_whole" (defArgs s_is_whole) (defBody s_is_whole) (defScope s_is_whole) [] [] (He.fAd K ("is_whole", none)) fd := T.c.def_ 0 (d := d_is_whole) (by rfl)
theorem Tx.f_choose (T : Tx K mg) : ∃ fd, FunD K "choose" "choose" (defArgs s_choose) (defBody s_choose) (defScope s_choose) [] [] (He.fAd K ("choose", none)) fd := T.c.def_ 1 (d := d_choose) (by rfl)
theorem Tx.f_lot_at (T : Tx K mg) : ∃ fd, FunD K "lot_at" "lot_at" (defArgs s_lot_at) (defBody s_lot_at) (defScope s_lot_at) [] [] (He.fAd K ("lot_at", none)) fd := T.c.def_ 2 (d := d_lot_at) (by rfl)
theorem Tx.f_number_of (T : Tx K mg) : ∃ fd, FunD K "number_of" "number_of" (defArgs s_number_of) (defBody s_number_of) (defScope s_number_of) [] [] (He.fAd K ("number_of", none)) fd := T.c.def_ 3 (d := d_number_of) (by rfl)
theorem Tx.f_lots (T : Tx K mg) : ∃ fd, FunD K "lots" "lots" (defArgs s_lots) (defBody s_lots) (defScope s_lots) [] [] (He.fAd K ("lots", none)) fd := T.c.def_ 4 (d := d_lots) (by rfl)
theorem Tx.f_is_prime (T : Tx K mg) : ∃ fd, FunD K "is_prime" "is_prime" (defArgs s_is_prime) (defBody s_is_prime) (defScope s_is_prime) [] [] (He.fAd K ("is_prime", none)) fd := T.c.def_ 5 (d := d_is_prime) (by rfl)
theorem Tx.f_is_file (T : Tx K mg) : ∃ fd, FunD K "is_file" "is_file" (defArgs s_is_file) (defBody s_is_file) (defScope s_is_file) [] [] (He.fAd K ("is_file", none)) fd := T.c.def_ 6 (d := d_is_file) (by rfl)
theorem Tx.f_piece (T : Tx K mg) : ∃ fd, FunD K "piece" "piece" (defArgs s_piece) (defBody s_piece) (defScope s_piece) [] [] (He.fAd K ("piece", none)) fd := T.c.def_ 7 (d := d_piece) (by rfl)
theorem Tx.f_is_number (T : Tx K mg) : ∃ fd, FunD K "is_number" "is_number" (defArgs s_is_number) (defBody s_is_number) (defScope s_is_number) [] [] (He.fAd K ("is_number", none)) fd := T.c.def_ 8 (d := d_is_number) (by rfl)
theorem Tx.f_is_wishes (T : Tx K mg) : ∃ fd, FunD K "is_wishes" "is_wishes" (defArgs s_is_wishes) (defBody s_is_wishes) (defScope s_is_wishes) [] [] (He.fAd K ("is_wishes", none)) fd := T.c.def_ 9 (d := d_is_wishes) (by rfl)
theorem Tx.f_wished (T : Tx K mg) : ∃ fd, FunD K "wished" "wished" (defArgs s_wished) (defBody s_wished) (defScope s_wished) [] [] (He.fAd K ("wished", none)) fd := T.c.def_ 10 (d := d_wished) (by rfl)
theorem Tx.f_first_wishers (T : Tx K mg) : ∃ fd, FunD K "first_wishers" "first_wishers" (defArgs s_first_wishers) (defBody s_first_wishers) (defScope s_first_wishers) [] [] (He.fAd K ("first_wishers", none)) fd := T.c.def_ 11 (d := d_first_wishers) (by rfl)
theorem Tx.f_leaders (T : Tx K mg) : ∃ fd, FunD K "leaders" "leaders" (defArgs s_leaders) (defBody s_leaders) (defScope s_leaders) [] [] (He.fAd K ("leaders", none)) fd := T.c.def_ 12 (d := d_leaders) (by rfl)
theorem Tx.f_plain_hands (T : Tx K mg) : ∃ fd, FunD K "plain_hands" "plain_hands" (defArgs s_plain_hands) (defBody s_plain_hands) (defScope s_plain_hands) [] [] (He.fAd K ("plain_hands", none)) fd := T.c.def_ 13 (d := d_plain_hands) (by rfl)
theorem Tx.f_made (T : Tx K mg) : ∃ fd, FunD K "made" "made" (defArgs s_made) (defBody s_made) (defScope s_made) [] [] (He.fAd K ("made", none)) fd := T.c.def_ 14 (d := d_made) (by rfl)
theorem Tx.f_made_with (T : Tx K mg) : ∃ fd, FunD K "made_with" "made_with" (defArgs s_made_with) (defBody s_made_with) (defScope s_made_with) [] [] (He.fAd K ("made_with", none)) fd := T.c.def_ 15 (d := d_made_with) (by rfl)
theorem Tx.f_next_hand (T : Tx K mg) : ∃ fd, FunD K "next_hand" "next_hand" (defArgs s_next_hand) (defBody s_next_hand) (defScope s_next_hand) [] [] (He.fAd K ("next_hand", none)) fd := T.c.def_ 16 (d := d_next_hand) (by rfl)
theorem Tx.f_made_at (T : Tx K mg) : ∃ fd, FunD K "made_at" "made_at" (defArgs s_made_at) (defBody s_made_at) (defScope s_made_at) [] [] (He.fAd K ("made_at", none)) fd := T.c.def_ 17 (d := d_made_at) (by rfl)
theorem Tx.f_sign_of (T : Tx K mg) : ∃ fd, FunD K "sign_of" "sign_of" (defArgs s_sign_of) (defBody s_sign_of) (defScope s_sign_of) [] [] (He.fAd K ("sign_of", none)) fd := T.c.def_ 18 (d := d_sign_of) (by rfl)
theorem Tx.f_sign (T : Tx K mg) : ∃ fd, FunD K "sign" "sign" (defArgs s_sign) (defBody s_sign) (defScope s_sign) [] [] (He.fAd K ("sign", none)) fd := T.c.def_ 19 (d := d_sign) (by rfl)
theorem Tx.f_without (T : Tx K mg) : ∃ fd, FunD K "without" "without" (defArgs s_without) (defBody s_without) (defScope s_without) [] [] (He.fAd K ("without", none)) fd := T.c.def_ 20 (d := d_without) (by rfl)
theorem Tx.f_with_hand (T : Tx K mg) : ∃ fd, FunD K "with_hand" "with_hand" (defArgs s_with_hand) (defBody s_with_hand) (defScope s_with_hand) [] [] (He.fAd K ("with_hand", none)) fd := T.c.def_ 21 (d := d_with_hand) (by rfl)
theorem Tx.f_terms (T : Tx K mg) : ∃ fd, FunD K "terms" "terms" (defArgs s_terms) (defBody s_terms) (defScope s_terms) [] [] (He.fAd K ("terms", none)) fd := T.c.def_ 22 (d := d_terms) (by rfl)
theorem Tx.f_cry (T : Tx K mg) : ∃ fd, FunD K "cry" "cry" (defArgs s_cry) (defBody s_cry) (defScope s_cry) [] [] (He.fAd K ("cry", none)) fd := T.c.def_ 23 (d := d_cry) (by rfl)
theorem Tx.f_made_lots (T : Tx K mg) : ∃ fd, FunD K "made_lots" "made_lots" (defArgs s_made_lots) (defBody s_made_lots) (defScope s_made_lots) [] [] (He.fAd K ("made_lots", none)) fd := T.c.def_ 24 (d := d_made_lots) (by rfl)
theorem Tx.f_cries (T : Tx K mg) : ∃ fd, FunD K "cries" "cries" (defArgs s_cries) (defBody s_cries) (defScope s_cries) [] [] (He.fAd K ("cries", none)) fd := T.c.def_ 25 (d := d_cries) (by rfl)
theorem Tx.f_inverse (T : Tx K mg) : ∃ fd, FunD K "inverse" "inverse" (defArgs s_inverse) (defBody s_inverse) (defScope s_inverse) [] [] (He.fAd K ("inverse", none)) fd := T.c.def_ 26 (d := d_inverse) (by rfl)
theorem Tx.f_lessened (T : Tx K mg) : ∃ fd, FunD K "lessened" "lessened" (defArgs s_lessened) (defBody s_lessened) (defScope s_lessened) [] [] (He.fAd K ("lessened", none)) fd := T.c.def_ 27 (d := d_lessened) (by rfl)
theorem Tx.f_Solving_init (T : Tx K mg) : ∃ fd, FunD K "__init__" "Solving.__init__" (defArgs s_Solving_init) (defBody s_Solving_init) (defScope s_Solving_init) [] [] (He.fAd K ("Solving", some "__init__")) fd := T.c.def_ 28 (d := d_Solving_init) (by rfl)
theorem Tx.f_Solving_clear (T : Tx K mg) : ∃ fd, FunD K "clear" "Solving.clear" (defArgs s_Solving_clear) (defBody s_Solving_clear) (defScope s_Solving_clear) [] [] (He.fAd K ("Solving", some "clear")) fd := T.c.def_ 29 (d := d_Solving_clear) (by rfl)
theorem Tx.f_Solving_others_in (T : Tx K mg) : ∃ fd, FunD K "others_in" "Solving.others_in" (defArgs s_Solving_others_in) (defBody s_Solving_others_in) (defScope s_Solving_others_in) [] [] (He.fAd K ("Solving", some "others_in")) fd := T.c.def_ 30 (d := d_Solving_others_in) (by rfl)
theorem Tx.f_Solving_is_single (T : Tx K mg) : ∃ fd, FunD K "is_single" "Solving.is_single" (defArgs s_Solving_is_single) (defBody s_Solving_is_single) (defScope s_Solving_is_single) [] [] (He.fAd K ("Solving", some "is_single")) fd := T.c.def_ 31 (d := d_Solving_is_single) (by rfl)
theorem Tx.f_Solving_behind (T : Tx K mg) : ∃ fd, FunD K "behind" "Solving.behind" (defArgs s_Solving_behind) (defBody s_Solving_behind) (defScope s_Solving_behind) [] [] (He.fAd K ("Solving", some "behind")) fd := T.c.def_ 32 (d := d_Solving_behind) (by rfl)
theorem Tx.f_weights_at (T : Tx K mg) : ∃ fd, FunD K "weights_at" "weights_at" (defArgs s_weights_at) (defBody s_weights_at) (defScope s_weights_at) [] [] (He.fAd K ("weights_at", none)) fd := T.c.def_ 33 (d := d_weights_at) (by rfl)
theorem Tx.f_weighed_sum (T : Tx K mg) : ∃ fd, FunD K "weighed_sum" "weighed_sum" (defArgs s_weighed_sum) (defBody s_weighed_sum) (defScope s_weighed_sum) [] [] (He.fAd K ("weighed_sum", none)) fd := T.c.def_ 34 (d := d_weighed_sum) (by rfl)
theorem Tx.f_place_weights (T : Tx K mg) : ∃ fd, FunD K "place_weights" "place_weights" (defArgs s_place_weights) (defBody s_place_weights) (defScope s_place_weights) [] [] (He.fAd K ("place_weights", none)) fd := T.c.def_ 35 (d := d_place_weights) (by rfl)
theorem Tx.f_spare (T : Tx K mg) : ∃ fd, FunD K "spare" "spare" (defArgs s_spare) (defBody s_spare) (defScope s_spare) [] [] (He.fAd K ("spare", none)) fd := T.c.def_ 36 (d := d_spare) (by rfl)
theorem Tx.f_with_spares (T : Tx K mg) : ∃ fd, FunD K "with_spares" "with_spares" (defArgs s_with_spares) (defBody s_with_spares) (defScope s_with_spares) [] [] (He.fAd K ("with_spares", none)) fd := T.c.def_ 37 (d := d_with_spares) (by rfl)
theorem Tx.f_has (T : Tx K mg) : ∃ fd, FunD K "has" "has" (defArgs s_has) (defBody s_has) (defScope s_has) [] [] (He.fAd K ("has", none)) fd := T.c.def_ 38 (d := d_has) (by rfl)
theorem Tx.f_shelf (T : Tx K mg) : ∃ fd, FunD K "shelf" "shelf" (defArgs s_shelf) (defBody s_shelf) (defScope s_shelf) [] [] (He.fAd K ("shelf", none)) fd := T.c.def_ 39 (d := d_shelf) (by rfl)
theorem Tx.f_own_number (T : Tx K mg) : ∃ fd, FunD K "own_number" "own_number" (defArgs s_own_number) (defBody s_own_number) (defScope s_own_number) [] [] (He.fAd K ("own_number", none)) fd := T.c.def_ 40 (d := d_own_number) (by rfl)
theorem Tx.f_lacked (T : Tx K mg) : ∃ fd, FunD K "lacked" "lacked" (defArgs s_lacked) (defBody s_lacked) (defScope s_lacked) [] [] (He.fAd K ("lacked", none)) fd := T.c.def_ 41 (d := d_lacked) (by rfl)
theorem Tx.f_row_of (T : Tx K mg) : ∃ fd, FunD K "row_of" "row_of" (defArgs s_row_of) (defBody s_row_of) (defScope s_row_of) [] [] (He.fAd K ("row_of", none)) fd := T.c.def_ 42 (d := d_row_of) (by rfl)
theorem Tx.f_known_by (T : Tx K mg) : ∃ fd, FunD K "known_by" "known_by" (defArgs s_known_by) (defBody s_known_by) (defScope s_known_by) [] [] (He.fAd K ("known_by", none)) fd := T.c.def_ 43 (d := d_known_by) (by rfl)
theorem Tx.f_is_within (T : Tx K mg) : ∃ fd, FunD K "is_within" "is_within" (defArgs s_is_within) (defBody s_is_within) (defScope s_is_within) [] [] (He.fAd K ("is_within", none)) fd := T.c.def_ 44 (d := d_is_within) (by rfl)
theorem Tx.f_may_be_spares (T : Tx K mg) : ∃ fd, FunD K "may_be_spares" "may_be_spares" (defArgs s_may_be_spares) (defBody s_may_be_spares) (defScope s_may_be_spares) [] [] (He.fAd K ("may_be_spares", none)) fd := T.c.def_ 45 (d := d_may_be_spares) (by rfl)
theorem Tx.f_Day_init (T : Tx K mg) : ∃ fd, FunD K "__init__" "Day.__init__" (defArgs s_Day_init) (defBody s_Day_init) (defScope s_Day_init) [] [] (He.fAd K ("Day", some "__init__")) fd := T.c.def_ 46 (d := d_Day_init) (by rfl)
theorem Tx.f_House_init (T : Tx K mg) : ∃ fd, FunD K "__init__" "House.__init__" (defArgs s_House_init) (defBody s_House_init) (defScope s_House_init) [] [] (He.fAd K ("House", some "__init__")) fd := T.c.def_ 47 (d := d_House_init) (by rfl)
theorem Tx.f_House_set_day (T : Tx K mg) : ∃ fd, FunD K "set_day" "House.set_day" (defArgs s_House_set_day) (defBody s_House_set_day) (defScope s_House_set_day) [] [] (He.fAd K ("House", some "set_day")) fd := T.c.def_ 48 (d := d_House_set_day) (by rfl)
theorem Tx.f_House_refuse_by_day (T : Tx K mg) : ∃ fd, FunD K "refuse_by_day" "House.refuse_by_day" (defArgs s_House_refuse_by_day) (defBody s_House_refuse_by_day) (defScope s_House_refuse_by_day) [] [] (He.fAd K ("House", some "refuse_by_day")) fd := T.c.def_ 49 (d := d_House_refuse_by_day) (by rfl)
theorem Tx.f_House_refuse_no_hand (T : Tx K mg) : ∃ fd, FunD K "refuse_no_hand" "House.refuse_no_hand" (defArgs s_House_refuse_no_hand) (defBody s_House_refuse_no_hand) (defScope s_House_refuse_no_hand) [] [] (He.fAd K ("House", some "refuse_no_hand")) fd := T.c.def_ 50 (d := d_House_refuse_no_hand) (by rfl)
theorem Tx.f_House_bring (T : Tx K mg) : ∃ fd, FunD K "bring" "House.bring" (defArgs s_House_bring) (defBody s_House_bring) (defScope s_House_bring) [] [] (He.fAd K ("House", some "bring")) fd := T.c.def_ 51 (d := d_House_bring) (by rfl)
theorem Tx.f_House_drop (T : Tx K mg) : ∃ fd, FunD K "drop" "House.drop" (defArgs s_House_drop) (defBody s_House_drop) (defScope s_House_drop) [] [] (He.fAd K ("House", some "drop")) fd := T.c.def_ 52 (d := d_House_drop) (by rfl)
theorem Tx.f_House_files (T : Tx K mg) : ∃ fd, FunD K "files" "House.files" (defArgs s_House_files) (defBody s_House_files) (defScope s_House_files) [] [] (He.fAd K ("House", some "files")) fd := T.c.def_ 53 (d := d_House_files) (by rfl)
theorem Tx.f_House_day (T : Tx K mg) : ∃ fd, FunD K "day" "House.day" (defArgs s_House_day) (defBody s_House_day) (defScope s_House_day) [] [("spares", .int 0)] (He.fAd K ("House", some "day")) fd := T.c.def_ 54 (d := d_House_day) (by rfl)
theorem Tx.f_House_next_number (T : Tx K mg) : ∃ fd, FunD K "next_number" "House.next_number" (defArgs s_House_next_number) (defBody s_House_next_number) (defScope s_House_next_number) [] [] (He.fAd K ("House", some "next_number")) fd := T.c.def_ 55 (d := d_House_next_number) (by rfl)
theorem Tx.f_House_call (T : Tx K mg) : ∃ fd, FunD K "call" "House.call" (defArgs s_House_call) (defBody s_House_call) (defScope s_House_call) [] [] (He.fAd K ("House", some "call")) fd := T.c.def_ 56 (d := d_House_call) (by rfl)
theorem Tx.f_House_away (T : Tx K mg) : ∃ fd, FunD K "away" "House.away" (defArgs s_House_away) (defBody s_House_away) (defScope s_House_away) [] [] (He.fAd K ("House", some "away")) fd := T.c.def_ 57 (d := d_House_away) (by rfl)
theorem Tx.f_House_home (T : Tx K mg) : ∃ fd, FunD K "home" "House.home" (defArgs s_House_home) (defBody s_House_home) (defScope s_House_home) [] [] (He.fAd K ("House", some "home")) fd := T.c.def_ 58 (d := d_House_home) (by rfl)
theorem Tx.f_House_night (T : Tx K mg) : ∃ fd, FunD K "night" "House.night" (defArgs s_House_night) (defBody s_House_night) (defScope s_House_night) [] [] (He.fAd K ("House", some "night")) fd := T.c.def_ 59 (d := d_House_night) (by rfl)
theorem Tx.f_House_heard (T : Tx K mg) : ∃ fd, FunD K "heard" "House.heard" (defArgs s_House_heard) (defBody s_House_heard) (defScope s_House_heard) [] [] (He.fAd K ("House", some "heard")) fd := T.c.def_ 60 (d := d_House_heard) (by rfl)
theorem Tx.f_House_weights_of (T : Tx K mg) : ∃ fd, FunD K "weights_of" "House.weights_of" (defArgs s_House_weights_of) (defBody s_House_weights_of) (defScope s_House_weights_of) [] [] (He.fAd K ("House", some "weights_of")) fd := T.c.def_ 61 (d := d_House_weights_of) (by rfl)
theorem Tx.f_House_pieces (T : Tx K mg) : ∃ fd, FunD K "pieces" "House.pieces" (defArgs s_House_pieces) (defBody s_House_pieces) (defScope s_House_pieces) [] [] (He.fAd K ("House", some "pieces")) fd := T.c.def_ 62 (d := d_House_pieces) (by rfl)
theorem Tx.f_House_knows (T : Tx K mg) : ∃ fd, FunD K "knows" "House.knows" (defArgs s_House_knows) (defBody s_House_knows) (defScope s_House_knows) [] [] (He.fAd K ("House", some "knows")) fd := T.c.def_ 63 (d := d_House_knows) (by rfl)
theorem Tx.f_law_pot (T : Tx K mg) : ∃ fd, FunD K "_law_pot" "_law_pot" (defArgs s_law_pot) (defBody s_law_pot) (defScope s_law_pot) [] [] (He.fAd K ("_law_pot", none)) fd := T.c.def_ 64 (d := d_law_pot) (by rfl)
theorem Tx.f_law_take (T : Tx K mg) : ∃ fd, FunD K "_law_take" "_law_take" (defArgs s_law_take) (defBody s_law_take) (defScope s_law_take) [] [] (He.fAd K ("_law_take", none)) fd := T.c.def_ 65 (d := d_law_take) (by rfl)
theorem Tx.f_law_of (T : Tx K mg) : ∃ fd, FunD K "_law_of" "_law_of" (defArgs s_law_of) (defBody s_law_of) (defScope s_law_of) [] [] (He.fAd K ("_law_of", none)) fd := T.c.def_ 66 (d := d_law_of) (by rfl)
theorem Tx.f_law_lots (T : Tx K mg) : ∃ fd, FunD K "_law_lots" "_law_lots" (defArgs s_law_lots) (defBody s_law_lots) (defScope s_law_lots) [] [] (He.fAd K ("_law_lots", none)) fd := T.c.def_ 67 (d := d_law_lots) (by rfl)
theorem Tx.f_law_leaders (T : Tx K mg) : ∃ fd, FunD K "_law_leaders" "_law_leaders" (defArgs s_law_leaders) (defBody s_law_leaders) (defScope s_law_leaders) [] [] (He.fAd K ("_law_leaders", none)) fd := T.c.def_ 68 (d := d_law_leaders) (by rfl)
theorem Tx.f_law_made (T : Tx K mg) : ∃ fd, FunD K "_law_made" "_law_made" (defArgs s_law_made) (defBody s_law_made) (defScope s_law_made) [] [] (He.fAd K ("_law_made", none)) fd := T.c.def_ 69 (d := d_law_made) (by rfl)
theorem Tx.f_law_files (T : Tx K mg) : ∃ fd, FunD K "_law_files" "_law_files" (defArgs s_law_files) (defBody s_law_files) (defScope s_law_files) [] [] (He.fAd K ("_law_files", none)) fd := T.c.def_ 70 (d := d_law_files) (by rfl)
theorem Tx.f_law_third (T : Tx K mg) : ∃ fd, FunD K "_law_third" "_law_third" (defArgs s_law_third) (defBody s_law_third) (defScope s_law_third) [] [] (He.fAd K ("_law_third", none)) fd := T.c.def_ 71 (d := d_law_third) (by rfl)
theorem Tx.f_law_alike (T : Tx K mg) : ∃ fd, FunD K "_law_alike" "_law_alike" (defArgs s_law_alike) (defBody s_law_alike) (defScope s_law_alike) [] [] (He.fAd K ("_law_alike", none)) fd := T.c.def_ 72 (d := d_law_alike) (by rfl)
theorem Tx.f_law (T : Tx K mg) : ∃ fd, FunD K "law" "law" (defArgs s_law) (defBody s_law) (defScope s_law) [] [] (He.fAd K ("law", none)) fd := T.c.def_ 73 (d := d_law) (by rfl)
theorem Tx.f_shelf_shelves (T : Tx K mg) : ∃ fd, FunD K "shelf" "shelf" (defArgs s_shelf) (defBody s_shelf) (defScope s_shelf) [] [] (He.fAd K ("shelf_shelves", none)) fd := T.c.def_ 74 (d := d_shelf_shelves) (by rfl)
end
abbrev N_is_whole : List Str := ["thing"]
theorem sc_is_whole : FnScope N_is_whole ["thing"] (defScope s_is_whole) := ⟨rfl, rfl, rfl, by decide +kernel, rfl, by decide +kernel, by decide +kernel⟩
abbrev N_choose : List Str := ["n", "k", "found", "step"]
theorem sc_choose : FnScope N_choose ["n", "k"] (defScope s_choose) := ⟨rfl, rfl, rfl, by decide +kernel, rfl, by decide +kernel, by decide +kernel⟩
abbrev N_lot_at : List Str := ["hands", "size", "number", "found", "hand", "left", "behind"]
theorem sc_lot_at : FnScope N_lot_at ["hands", "size", "number"] (defScope s_lot_at) := ⟨rfl, rfl, rfl, by decide +kernel, rfl, by decide +kernel, by decide +kernel⟩
abbrev N_number_of : List Str := ["hands", "lot", "number", "ahead", "place", "hand", "lesser"]
theorem sc_number_of : FnScope N_number_of ["hands", "lot"] (defScope s_number_of) := ⟨rfl, rfl, rfl, by decide +kernel, rfl, by decide +kernel, by decide +kernel⟩
abbrev N_lots : List Str := ["hands", "size", "many", "number"]
theorem sc_lots : FnScope N_lots ["hands", "size"] (defScope s_lots) := ⟨rfl, rfl, rfl, by decide +kernel, rfl, by decide +kernel, by decide +kernel⟩
abbrev N_is_prime : List Str := ["n", "by"]
theorem sc_is_prime : FnScope N_is_prime ["n"] (defScope s_is_prime) := ⟨rfl, rfl, rfl, by decide +kernel, rfl, by decide +kernel, by decide +kernel⟩
abbrev N_is_file : List Str := ["p", "hands", "t", "thing", "number"]
theorem sc_is_file : FnScope N_is_file ["p", "hands", "t", "thing"] (defScope s_is_file) := ⟨rfl, rfl, rfl, by decide +kernel, rfl, by decide +kernel, by decide +kernel⟩
abbrev N_piece : List Str := ["hands", "file", "lot"]
theorem sc_piece : FnScope N_piece ["hands", "file", "lot"] (defScope s_piece) := ⟨rfl, rfl, rfl, by decide +kernel, rfl, by decide +kernel, by decide +kernel⟩
abbrev N_is_number : List Str := ["thing"]
theorem sc_is_number : FnScope N_is_number ["thing"] (defScope s_is_number) := ⟨rfl, rfl, rfl, by decide +kernel, rfl, by decide +kernel, by decide +kernel⟩
abbrev N_is_wishes : List Str := ["hands", "files", "thing", "one"]
theorem sc_is_wishes : FnScope N_is_wishes ["hands", "files", "thing"] (defScope s_is_wishes) := ⟨rfl, rfl, rfl, by decide +kernel, rfl, by decide +kernel, by decide +kernel⟩
abbrev N_wished : List Str := ["wishes", "number"]
theorem sc_wished : FnScope N_wished ["wishes"] (defScope s_wished) := ⟨rfl, rfl, rfl, by decide +kernel, rfl, by decide +kernel, by decide +kernel⟩
abbrev N_first_wishers : List Str := ["wishes", "found", "hand", "number"]
theorem sc_first_wishers : FnScope N_first_wishers ["wishes"] (defScope s_first_wishers) := ⟨rfl, rfl, rfl, by decide +kernel, rfl, by decide +kernel, by decide +kernel⟩
abbrev N_leaders : List Str := ["wishes"]
theorem sc_leaders : FnScope N_leaders ["wishes"] (defScope s_leaders) := ⟨rfl, rfl, rfl, by decide +kernel, rfl, by decide +kernel, by decide +kernel⟩
abbrev N_plain_hands : List Str := ["wishes", "ahead", "hand"]
theorem sc_plain_hands : FnScope N_plain_hands ["wishes"] (defScope s_plain_hands) := ⟨rfl, rfl, rfl, by decide +kernel, rfl, by decide +kernel, by decide +kernel⟩
abbrev N_made : List Str := ["t", "wishes"]
theorem sc_made : FnScope N_made ["t", "wishes"] (defScope s_made) := ⟨rfl, rfl, rfl, by decide +kernel, rfl, by decide +kernel, by decide +kernel⟩
abbrev N_made_with : List Str := ["wishes", "plain", "lot", "hand", "rest", "every", "one"]
theorem sc_made_with : FnScope N_made_with ["wishes", "plain", "lot", "hand", "rest"] (defScope s_made_with) := ⟨rfl, rfl, rfl, by decide +kernel, rfl, by decide +kernel, by decide +kernel⟩
abbrev N_next_hand : List Str := ["wishes", "plain", "lot", "number", "rest", "hand", "many"]
theorem sc_next_hand : FnScope N_next_hand ["wishes", "plain", "lot", "number", "rest"] (defScope s_next_hand) := ⟨rfl, rfl, rfl, by decide +kernel, rfl, by decide +kernel, by decide +kernel⟩
abbrev N_made_at : List Str := ["t", "wishes", "number", "lot", "plain", "rest", "hand"]
theorem sc_made_at : FnScope N_made_at ["t", "wishes", "number"] (defScope s_made_at) := ⟨rfl, rfl, rfl, by decide +kernel, rfl, by decide +kernel, by decide +kernel⟩
abbrev N_sign_of : List Str := ["many"]
theorem sc_sign_of : FnScope N_sign_of ["many"] (defScope s_sign_of) := ⟨rfl, rfl, rfl, by decide +kernel, rfl, by decide +kernel, by decide +kernel⟩
abbrev N_sign : List Str := ["hand", "lot", "one"]
theorem sc_sign : FnScope N_sign ["hand", "lot"] (defScope s_sign) := ⟨rfl, rfl, rfl, by decide +kernel, rfl, by decide +kernel, by decide +kernel⟩
abbrev N_without : List Str := ["lot", "hand", "one"]
theorem sc_without : FnScope N_without ["lot", "hand"] (defScope s_without) := ⟨rfl, rfl, rfl, by decide +kernel, rfl, by decide +kernel, by decide +kernel⟩
abbrev N_with_hand : List Str := ["lot", "hand"]
theorem sc_with_hand : FnScope N_with_hand ["lot", "hand"] (defScope s_with_hand) := ⟨rfl, rfl, rfl, by decide +kernel, rfl, by decide +kernel, by decide +kernel⟩
abbrev N_terms : List Str := ["wishes", "lot", "hand"]
theorem sc_terms : FnScope N_terms ["wishes", "lot"] (defScope s_terms) := ⟨rfl, rfl, rfl, by decide +kernel, rfl, by decide +kernel, by decide +kernel⟩
abbrev N_cry : List Str := ["p", "files", "wishes", "lot", "parts", "turn", "number", "rest"]
theorem sc_cry : FnScope N_cry ["p", "files", "wishes", "lot"] (defScope s_cry) := ⟨rfl, rfl, rfl, by decide +kernel, rfl, by decide +kernel, by decide +kernel⟩
abbrev N_made_lots : List Str := ["t", "wishes", "rest", "found", "leader", "hand", "at", "lot"]
theorem sc_made_lots : FnScope N_made_lots ["t", "wishes"] (defScope s_made_lots) := ⟨rfl, rfl, rfl, by decide +kernel, rfl, by decide +kernel, by decide +kernel⟩
abbrev N_cries : List Str := ["p", "t", "files", "wishes", "many", "lot"]
theorem sc_cries : FnScope N_cries ["p", "t", "files", "wishes"] (defScope s_cries) := ⟨rfl, rfl, rfl, by decide +kernel, rfl, by decide +kernel, by decide +kernel⟩
abbrev N_inverse : List Str := ["p", "number", "far", "near", "gone", "here", "often"]
theorem sc_inverse : FnScope N_inverse ["p", "number"] (defScope s_inverse) := ⟨rfl, rfl, rfl, by decide +kernel, rfl, by decide +kernel, by decide +kernel⟩
abbrev N_lessened : List Str := ["p", "row", "other", "often", "one", "its"]
theorem sc_lessened : FnScope N_lessened ["p", "row", "other", "often"] (defScope s_lessened) := ⟨rfl, rfl, rfl, by decide +kernel, rfl, by decide +kernel, by decide +kernel⟩
abbrev N_Solving_init : List Str := ["self", "p", "rows", "width", "number", "row", "column"]
theorem sc_Solving_init : FnScope N_Solving_init ["self", "p", "rows", "width"] (defScope s_Solving_init) := ⟨rfl, rfl, rfl, by decide +kernel, rfl, by decide +kernel, by decide +kernel⟩
abbrev N_Solving_clear : List Str := ["self", "column", "at", "spots", "spot", "by", "own", "number", "lines", "line"]
theorem sc_Solving_clear : FnScope N_Solving_clear ["self", "column"] (defScope s_Solving_clear) := ⟨rfl, rfl, rfl, by decide +kernel, rfl, by decide +kernel, by decide +kernel⟩
abbrev N_Solving_others_in : List Str := ["self", "column", "line", "other"]
theorem sc_Solving_others_in : FnScope N_Solving_others_in ["self", "column"] (defScope s_Solving_others_in) := ⟨rfl, rfl, rfl, by decide +kernel, rfl, by decide +kernel, by decide +kernel⟩
abbrev N_Solving_is_single : List Str := ["self", "column"]
theorem sc_Solving_is_single : FnScope N_Solving_is_single ["self", "column"] (defScope s_Solving_is_single) := ⟨rfl, rfl, rfl, by decide +kernel, rfl, by decide +kernel, by decide +kernel⟩
abbrev N_Solving_behind : List Str := ["self", "column"]
theorem sc_Solving_behind : FnScope N_Solving_behind ["self", "column"] (defScope s_Solving_behind) := ⟨rfl, rfl, rfl, by decide +kernel, rfl, by decide +kernel, by decide +kernel⟩
abbrev N_weights_at : List Str := ["p", "places", "x", "found", "here", "over", "under", "there"]
theorem sc_weights_at : FnScope N_weights_at ["p", "places", "x"] (defScope s_weights_at) := ⟨rfl, rfl, rfl, by decide +kernel, rfl, by decide +kernel, by decide +kernel⟩
abbrev N_weighed_sum : List Str := ["p", "weights", "worths", "often", "worth"]
theorem sc_weighed_sum : FnScope N_weighed_sum ["p", "weights", "worths"] (defScope s_weighed_sum) := ⟨rfl, rfl, rfl, by decide +kernel, rfl, by decide +kernel, by decide +kernel⟩
abbrev N_place_weights : List Str := ["p", "m", "x", "places", "place"]
theorem sc_place_weights : FnScope N_place_weights ["p", "m", "x"] (defScope s_place_weights) := ⟨rfl, rfl, rfl, by decide +kernel, rfl, by decide +kernel, by decide +kernel⟩
abbrev N_spare : List Str := ["p", "cries", "j"]
theorem sc_spare : FnScope N_spare ["p", "cries", "j"] (defScope s_spare) := ⟨rfl, rfl, rfl, by decide +kernel, rfl, by decide +kernel, by decide +kernel⟩
abbrev N_with_spares : List Str := ["p", "cries", "many", "j"]
theorem sc_with_spares : FnScope N_with_spares ["p", "cries", "many"] (defScope s_with_spares) := ⟨rfl, rfl, rfl, by decide +kernel, rfl, by decide +kernel, by decide +kernel⟩
abbrev N_has : List Str := ["hands", "t", "hand", "number"]
theorem sc_has : FnScope N_has ["hands", "t", "hand", "number"] (defScope s_has) := ⟨rfl, rfl, rfl, by decide +kernel, rfl, by decide +kernel, by decide +kernel⟩
abbrev N_shelf : List Str := ["hands", "t", "hand", "file", "at", "number"]
theorem sc_shelf : FnScope N_shelf ["hands", "t", "hand", "file"] (defScope s_shelf) := ⟨rfl, rfl, rfl, by decide +kernel, rfl, by decide +kernel, by decide +kernel⟩
abbrev N_own_number : List Str := ["wishes", "hand"]
theorem sc_own_number : FnScope N_own_number ["wishes", "hand"] (defScope s_own_number) := ⟨rfl, rfl, rfl, by decide +kernel, rfl, by decide +kernel, by decide +kernel⟩
abbrev N_lacked : List Str := ["wishes", "files", "found", "number", "at", "kept"]
theorem sc_lacked : FnScope N_lacked ["wishes", "files"] (defScope s_lacked) := ⟨rfl, rfl, rfl, by decide +kernel, rfl, by decide +kernel, by decide +kernel⟩
abbrev N_row_of : List Str := ["p", "t", "wishes", "files", "places", "weights", "told", "row", "left", "number", "weight", "turn", "file_number", "rest", "at", "kept"]
theorem sc_row_of : FnScope N_row_of ["p", "t", "wishes", "files", "places", "weights", "told"] (defScope s_row_of) := ⟨rfl, rfl, rfl, by decide +kernel, rfl, by decide +kernel, by decide +kernel⟩
abbrev N_known_by : List Str := ["p", "t", "wishes", "hand", "files", "rows", "own", "places", "some", "weights", "told", "solving", "found", "at", "kept"]
theorem sc_known_by : FnScope N_known_by ["p", "t", "wishes", "hand", "files", "rows"] (defScope s_known_by) := ⟨rfl, rfl, rfl, by decide +kernel, rfl, by decide +kernel, by decide +kernel⟩
abbrev N_is_within : List Str := ["thing", "low", "high"]
theorem sc_is_within : FnScope N_is_within ["thing", "low", "high"] (defScope s_is_within) := ⟨rfl, rfl, rfl, by decide +kernel, rfl, by decide +kernel, by decide +kernel⟩
abbrev N_may_be_spares : List Str := ["p", "t", "wishes", "thing"]
theorem sc_may_be_spares : FnScope N_may_be_spares ["p", "t", "wishes", "thing"] (defScope s_may_be_spares) := ⟨rfl, rfl, rfl, by decide +kernel, rfl, by decide +kernel, by decide +kernel⟩
abbrev N_Day_init : List Str := ["self", "wishes", "spares", "files", "heard"]
theorem sc_Day_init : FnScope N_Day_init ["self", "wishes", "spares", "files", "heard"] (defScope s_Day_init) := ⟨rfl, rfl, rfl, by decide +kernel, rfl, by decide +kernel, by decide +kernel⟩
abbrev N_House_init : List Str := ["self", "hands", "t", "p"]
theorem sc_House_init : FnScope N_House_init ["self", "hands", "t", "p"] (defScope s_House_init) := ⟨rfl, rfl, rfl, by decide +kernel, rfl, by decide +kernel, by decide +kernel⟩
abbrev N_House_set_day : List Str := ["self", "day", "made_ones"]
theorem sc_House_set_day : FnScope N_House_set_day ["self", "day"] (defScope s_House_set_day) := ⟨rfl, rfl, rfl, by decide +kernel, rfl, by decide +kernel, by decide +kernel⟩
abbrev N_House_refuse_by_day : List Str := ["self"]
theorem sc_House_refuse_by_day : FnScope N_House_refuse_by_day ["self"] (defScope s_House_refuse_by_day) := ⟨rfl, rfl, rfl, by decide +kernel, rfl, by decide +kernel, by decide +kernel⟩
abbrev N_House_refuse_no_hand : List Str := ["self", "hand"]
theorem sc_House_refuse_no_hand : FnScope N_House_refuse_no_hand ["self", "hand"] (defScope s_House_refuse_no_hand) := ⟨rfl, rfl, rfl, by decide +kernel, rfl, by decide +kernel, by decide +kernel⟩
abbrev N_House_bring : List Str := ["self", "file", "number"]
theorem sc_House_bring : FnScope N_House_bring ["self", "file"] (defScope s_House_bring) := ⟨rfl, rfl, rfl, by decide +kernel, rfl, by decide +kernel, by decide +kernel⟩
abbrev N_House_drop : List Str := ["self", "number"]
theorem sc_House_drop : FnScope N_House_drop ["self", "number"] (defScope s_House_drop) := ⟨rfl, rfl, rfl, by decide +kernel, rfl, by decide +kernel, by decide +kernel⟩
abbrev N_House_files : List Str := ["self"]
theorem sc_House_files : FnScope N_House_files ["self"] (defScope s_House_files) := ⟨rfl, rfl, rfl, by decide +kernel, rfl, by decide +kernel, by decide +kernel⟩
abbrev N_House_day : List Str := ["self", "wishes", "spares", "kept", "number", "hand"]
theorem sc_House_day : FnScope N_House_day ["self", "wishes", "spares"] (defScope s_House_day) := ⟨rfl, rfl, rfl, by decide +kernel, rfl, by decide +kernel, by decide +kernel⟩
abbrev N_House_next_number : List Str := ["self", "done"]
theorem sc_House_next_number : FnScope N_House_next_number ["self"] (defScope s_House_next_number) := ⟨rfl, rfl, rfl, by decide +kernel, rfl, by decide +kernel, by decide +kernel⟩
abbrev N_House_call : List Str := ["self", "number", "hand", "row"]
theorem sc_House_call : FnScope N_House_call ["self"] (defScope s_House_call) := ⟨rfl, rfl, rfl, by decide +kernel, rfl, by decide +kernel, by decide +kernel⟩
abbrev N_House_away : List Str := ["self", "hand"]
theorem sc_House_away : FnScope N_House_away ["self", "hand"] (defScope s_House_away) := ⟨rfl, rfl, rfl, by decide +kernel, rfl, by decide +kernel, by decide +kernel⟩
abbrev N_House_home : List Str := ["self", "hand"]
theorem sc_House_home : FnScope N_House_home ["self", "hand"] (defScope s_House_home) := ⟨rfl, rfl, rfl, by decide +kernel, rfl, by decide +kernel, by decide +kernel⟩
abbrev N_House_night : List Str := ["self", "wishes", "hand", "number"]
theorem sc_House_night : FnScope N_House_night ["self"] (defScope s_House_night) := ⟨rfl, rfl, rfl, by decide +kernel, rfl, by decide +kernel, by decide +kernel⟩
abbrev N_House_heard : List Str := ["self", "hand"]
theorem sc_House_heard : FnScope N_House_heard ["self", "hand"] (defScope s_House_heard) := ⟨rfl, rfl, rfl, by decide +kernel, rfl, by decide +kernel, by decide +kernel⟩
abbrev N_House_weights_of : List Str := ["self", "many", "place", "other"]
theorem sc_House_weights_of : FnScope N_House_weights_of ["self", "many", "place"] (defScope s_House_weights_of) := ⟨rfl, rfl, rfl, by decide +kernel, rfl, by decide +kernel, by decide +kernel⟩
abbrev N_House_pieces : List Str := ["self", "hand", "day", "many", "rows", "place", "number", "had", "file"]
theorem sc_House_pieces : FnScope N_House_pieces ["self", "hand"] (defScope s_House_pieces) := ⟨rfl, rfl, rfl, by decide +kernel, rfl, by decide +kernel, by decide +kernel⟩
abbrev N_House_knows : List Str := ["self", "hand", "found"]
theorem sc_House_knows : FnScope N_House_knows ["self", "hand"] (defScope s_House_knows) := ⟨rfl, rfl, rfl, by decide +kernel, rfl, by decide +kernel, by decide +kernel⟩
abbrev N_law_pot : List Str := ["_law_script", "_law_k", "_law_cell", "_law_great"]
theorem sc_law_pot : FnScope N_law_pot ["_law_script", "_law_k"] (defScope s_law_pot) := ⟨rfl, rfl, rfl, by decide +kernel, rfl, by decide +kernel, by decide +kernel⟩
abbrev N_law_take : List Str := ["_law_pot_here", "_law_size", "_law_digit", "_law_prime", "_law_mixed"]
theorem sc_law_take : FnScope N_law_take ["_law_pot_here", "_law_size"] (defScope s_law_take) := ⟨rfl, rfl, rfl, by decide +kernel, rfl, by decide +kernel, by decide +kernel⟩
abbrev N_law_of : List Str := ["_law_pot_here", "_law_some"]
theorem sc_law_of : FnScope N_law_of ["_law_pot_here", "_law_some"] (defScope s_law_of) := ⟨rfl, rfl, rfl, by decide +kernel, rfl, by decide +kernel, by decide +kernel⟩
abbrev N_law_lots : List Str := ["_law_count", "_law_size", "_law_found", "_law_turn", "_law_longer", "_law_lot", "_law_one"]
theorem sc_law_lots : FnScope N_law_lots ["_law_count", "_law_size"] (defScope s_law_lots) := ⟨rfl, rfl, rfl, by decide +kernel, rfl, by decide +kernel, by decide +kernel⟩
abbrev N_law_leaders : List Str := ["_law_wishes", "_law_found", "_law_one", "_law_number"]
theorem sc_law_leaders : FnScope N_law_leaders ["_law_wishes"] (defScope s_law_leaders) := ⟨rfl, rfl, rfl, by decide +kernel, rfl, by decide +kernel, by decide +kernel⟩
abbrev N_law_made : List Str := ["_law_t", "_law_wishes", "_law_ahead", "_law_lot", "_law_one"]
theorem sc_law_made : FnScope N_law_made ["_law_t", "_law_wishes"] (defScope s_law_made) := ⟨rfl, rfl, rfl, by decide +kernel, rfl, by decide +kernel, by decide +kernel⟩
abbrev N_law_files : List Str := ["_law_pot_here", "_law_count", "_law_t", "_law_p", "_law_many", "_law_lot", "_law_turn"]
theorem sc_law_files : FnScope N_law_files ["_law_pot_here", "_law_count", "_law_t", "_law_p", "_law_many"] (defScope s_law_files) := ⟨rfl, rfl, rfl, by decide +kernel, rfl, by decide +kernel, by decide +kernel⟩
abbrev N_law_third : List Str := ["_law_pot_here", "_law_count", "_law_t", "_law_p", "_law_some", "_law_house", "_law_gone", "_law_number", "_law_file", "_law_one"]
theorem sc_law_third : FnScope N_law_third ["_law_pot_here", "_law_count", "_law_t", "_law_p", "_law_some"] (defScope s_law_third) := ⟨rfl, rfl, rfl, by decide +kernel, rfl, by decide +kernel, by decide +kernel⟩
abbrev N_law_alike : List Str := ["_law_houses", "_law_one", "_law_many", "_law_told", "_law_house"]
theorem sc_law_alike : FnScope N_law_alike ["_law_houses", "_law_one", "_law_many"] (defScope s_law_alike) := ⟨rfl, rfl, rfl, by decide +kernel, rfl, by decide +kernel, by decide +kernel⟩
abbrev N_law : List Str := ["_law_script", "_law_k", "_law_pot_here", "_law_count", "_law_t", "_law_p", "_law_some", "_law_wishes", "_law_one", "_law_many", "_law_more", "_law_houses", "_law_file", "_law_house", "_law_turn", "_law_is_heard", "_law_numbers", "_law_other", "_law_is_home", "_law_done"]
theorem sc_law : FnScope N_law ["_law_script"] (defScope s_law) := ⟨rfl, rfl, rfl, by decide +kernel, rfl, by decide +kernel, by decide +kernel⟩
end Lk

/-! LkR1 -/
set_option Elab.async false
set_option linter.all false
set_option maxRecDepth 100000
set_option maxHeartbeats 4000000
set_option autoImplicit false
/-! Rules that the hand layer lacks: enumerate of a tuple. -/
namespace Lk
open PySem PySem.Spec PyProof.Rows L2
open Ty (r)

/-! ### enumerate(tuple) -/
set_option maxHeartbeats 1000000 in
theorem enum_new1 {v : Value} {ob : Obj} {Hv : Heap → Prop} (Bg : Begins v ob Hv) :
    Meets (Builtin.«enumerate.__new__» ⟨[.type "enumerate", v], []⟩) (fun _ Rr st => Hv st.heap ∧
      Rr (.ok (.ret (.ref (st.heap.push ob).objs.size))) { st with heap := (st.heap.push ob).push { cls := .type "enumerate", data := .fields #[.none, .bool false, .ref st.heap.objs.size, rawInt 0, .none, .none] } }) := .of_wp fun pr wd Ar Rr st hh => by
  obtain ⟨hp, gg, dd, tk, os⟩ := st
  obtain ⟨hv, hh⟩ := hh
  have hsub := sub_enumerate
  have it1 : ∀ {Ar' : Around} {Ee : Value → Shared → Prop} {Qq : Value → Shared → Prop}, Qq (.ref hp.objs.size) ⟨hp.push ob, gg, dd, tk, os⟩ → wpAny (model pr wd) Ar' (pyIter v) Qq Ee ⟨hp, gg, dd, tk, os⟩ := fun qq => Bg.iter pr wd _ _ ⟨hp, gg, dd, tk, os⟩ _ hv qq
  wp_walk using it1
  refine wpAny_stack_any fun _ => wpAny_pure ?_
  split
  · rename_i cc _ _ _ _ _
    cases (cc == Value.type "enumerate") <;> (wp_walk using it1; exact ⟨_, rfl, hh⟩)
  · (wp_walk using it1; exact ⟨_, rfl, hh⟩)
theorem call_enum1 {pr : Program} {wd : World} {Ar : Around} {Ee : Value → Shared → Prop} {st : Shared} {v : Value} {ob : Obj} {Hv : Heap → Prop} {Qq : Value → Shared → Prop} (Bg : Begins v ob Hv) (hv : Hv st.heap)
    (k : ∀ h', IsEnum h' (st.heap.objs.size + 1) st.heap.objs.size 0 .none → h'.get? st.heap.objs.size = some ob → (∀ b o, st.heap.get? b = some o → h'.get? b = some o) → Qq (.ref (st.heap.objs.size + 1)) { st with heap := h' }) :
    wpAny (model pr wd) Ar (call (.type "enumerate") [v]) Qq Ee st := by
  refine callType_new F.called_enumerate (by decide) (F.typeCall_enumerate_1 _) (F.newCall_enumerate_1 _) (fun w => F.args_object_init_2 w _) F.entry_enumerate_new (enum_new1 Bg) ⟨hv, ?_⟩
  have sz : (st.heap.push ob).objs.size = st.heap.objs.size + 1 := Heap.size_push ..
  show _ ∧ _
  rw [sz]
  have en : IsEnum ((st.heap.push ob).push { cls := .type "enumerate", data := .fields #[.none, .bool false, .ref st.heap.objs.size, rawInt 0, .none, .none] }) (st.heap.objs.size + 1) st.heap.objs.size 0 .none := by
    have q := Heap.get?_push_size (st.heap.push ob) (o := { cls := .type "enumerate", data := .fields #[.none, .bool false, .ref st.heap.objs.size, rawInt 0, .none, .none] }) rfl
    rw [sz] at q
    exact q
  exact ⟨⟨_, en, rfl⟩, k _ en (Heap.get?_push_of_some _ (Heap.get?_push_size _ Bg.free)) fun b o x => Heap.get?_push_of_some _ (Heap.get?_push_of_some _ x)⟩
/-- the tuple at a as it stands, each item with its place in a new pair -/
def IeT (K : PySem.W.Frag) (a : Addr) : It where
  go i H := ∃ xs x, SqT K H a xs ∧ xs[i]? = some x
  yld i H v H' := ∃ T x, v = .ref T ∧ H T = none ∧ H' = upd H T (.tup [.int (i : Nat), x]) ∧ ∀ xs, SqT K H a xs → xs[i]? = some x
  stop i H := ∃ xs : List V, SqT K H a xs ∧ xs.length ≤ i
theorem turn_enumT {Pr : Program} {wd : World} {K : PySem.W.Frag} {elts : List Expr} {kk : Nat} {tpos : Pos} (a e it : Addr) :
    Turn Pr wd K (.Tuple elts kk tpos) (IeT K a) [e, it] e (fun i h => (∃ old, IsEnum h e it ((i : Nat) : Int) old) ∧ h.IsTupleIter it a i ∧ e ≠ it) where
  mem := List.mem_cons_self ..
  obj := fun i h ⟨⟨old, he⟩, ⟨o, ho, hc, hd⟩, _⟩ b hb => by
    rcases List.mem_cons.mp hb with rfl | hb
    · exact ⟨_, he, fun v z => nomatch z⟩
    · rw [List.mem_singleton.mp hb]
      exact ⟨o, ho, fun v z => by rw [hd] at z; cases z⟩
  keep := fun i h h' ⟨⟨old, he⟩, hi, hne⟩ k => ⟨⟨old, k e (List.mem_cons_self ..) _ he⟩, hi.at fun o z => k it (by simp) o z, hne⟩
  self := fun A i s Q E ⟨⟨_, he⟩, _⟩ h => wpAny_pyIter_enum he h
  done := by
    intro X hP hw hK hc i pins s σ H E I hf st hg
    subst hP hw hK
    obtain ⟨⟨old, he⟩, hit, hne⟩ := st
    obtain ⟨xs, hq, hx⟩ := hg
    obtain ⟨its, rv, tp, hz⟩ := I.tuple hq
    obtain ⟨g0, g1, g2, g3, g4, g5⟩ := hf it (by simp)
    have el := rv.length
    have hai : a ≠ it := fun z => by
      subst z
      obtain ⟨o1, e1, c1, _⟩ := tp
      obtain ⟨o2, e2, c2, _⟩ := hit
      rw [e1] at e2
      cases e2
      rw [c1] at c2
      exact absurd c2 (by intro z; injection z with z; exact absurd z (by decide))
    have hi : its.toArray[i]? = none := by simp; omega
    have Dr : Draws X.prog X.w X.A.in1 it [it, a] i (fun j v => False) (fun j h => j = i ∧ h.IsTupleIter it a i ∧ h.IsTuple a its.toArray) := {
      live := fun j h ⟨_, ⟨o, ho, _⟩, _⟩ => ⟨o, ho⟩
      frame := fun j h h' ⟨ej, s1, s2⟩ hk => ⟨ej, s1.at fun o z => hk it (by simp) o z, s2.at fun o z => hk a (by simp) o z⟩
      item := fun j s Q E hj ⟨ej, _⟩ _ => absurd ej (Nat.ne_of_lt hj)
      done := fun s Q E ⟨_, s1, s2⟩ hE => wpAny_nextOf_tuple_end (I.ok.hd hc) s1 s2 hi hE }
    exact wpAny_pyNext_enum_endD Dr he ⟨rfl, hit, tp⟩ fun h' eb => ⟨rfl, I.turned (t' := s.toks) (fun b o hb q => eb b o hb q) g0 g1 g3 g4 g5⟩
  item := by
    intro X hP hw hK hc i pins s σ H E I hf st hg
    subst hP hw hK
    obtain ⟨⟨old, he⟩, hit, hne⟩ := st
    obtain ⟨xs, x, hq, hx⟩ := hg
    obtain ⟨its, rv, tp, hz⟩ := I.tuple hq
    obtain ⟨u, hu, ru⟩ := rv.get hx
    have hai : a ≠ it := fun z => by
      subst z
      obtain ⟨o1, e1, c1, _⟩ := tp
      obtain ⟨o2, e2, c2, _⟩ := hit
      rw [e1] at e2
      cases e2
      rw [c1] at c2
      exact absurd c2 (by intro z; injection z with z; exact absurd z (by decide))
    have hea : e ≠ a := fun z => by
      subst z
      obtain ⟨o1, e1, c1, _⟩ := tp
      have he : s.heap.get? e = _ := he
      rw [e1] at he
      cases he
      exact absurd c1 (by intro z; injection z with z; exact absurd z (by decide))
    have hil : i < its.toArray.size := by
      have z := (List.getElem?_eq_some_iff.mp hu).1
      simpa using z
    refine wpAny_pyNext_enum_itemD (Draws.tuple (A := X.A.in1) (show X.A.in1.handled = none from I.ok.hd hc) it a hai its.toArray) he ⟨hit, tp⟩ hil hne (by simp [hne, hea]) fun y h' tk hy ho hst hT hsz hk => ?_
    have ey : y = u := by
      have z : its.toArray[i]? = some u := by simpa using hu
      rw [z] at hy
      exact (Option.some.inj hy).symm
    subst ey
    refine ⟨_, rfl, wpAny_letOwnedTupleGo_enum (s := { s with heap := h', toks := tk + 1 }) ho fun h2 he2 sb => ?_⟩
    have le : e < s.heap.objs.size := Heap.lt_size he
    have li : it < s.heap.objs.size := by obtain ⟨_, z, _⟩ := hit; exact Heap.lt_size z
    have T2 : h2.get? s.heap.objs.size = some { cls := .type "tuple", data := .seq #[.int i tk, y] } := (sb.2 _ (Nat.ne_of_gt le)).trans hT
    have nw : ObjOk X.prog X.w (upd H s.heap.objs.size (.tup [.int (i : Nat), x])) h2 s.heap.objs.size (.tup [.int (i : Nat), x]) :=
      ⟨szl (by show (2 : Nat) < 1000000; decide), [.int i tk, y], .cons ⟨_, rfl⟩ (.cons ru .nil), ⟨_, T2, rfl, _, rfl⟩⟩
    have I2 : Inv X pins σ (upd H s.heap.objs.size (.tup [.int (i : Nat), x])) { s with heap := h2, toks := tk + 1 } :=
      I.turnedNew (ch := [e, it]) (fun b o hb z => (sb.2 b (fun q => hb (by simp [q]))).trans (hk b o (fun q => hb (by simp [q])) (fun q => hb (by simp [q])) z)) hf (Nat.le_refl _) nw
    refine ⟨.ref s.heap.objs.size, _, I2, rfl, ⟨_, x, rfl, I.hok.fresh (Nat.le_refl _), rfl, fun ys hy => by rw [I.tuple_inj hy hq]; exact hx⟩, ⟨⟨y, ?_⟩, hst.1.at fun o z => (sb.2 it (Ne.symm hne)).trans z, hne⟩, fun b hb => ?_⟩
    · rw [show ((i + 1 : Nat) : Int) = (i : Int) + 1 by omega]
      exact he2
    · have lb : b < s.heap.objs.size := by
        rcases List.mem_cons.mp hb with z | z
        · rw [z]; exact le
        · rw [List.mem_singleton.mp z]; exact li
      rw [upd_ne (Nat.ne_of_lt lb)]
      exact (hf b hb).1
def iEnumT (K : PySem.W.Frag) (ta : TA) : TI := fun σ H Rr => ta σ H fun vs H1 => ∃ a xs, vs = [.ref a] ∧ SqT K H1 a xs ∧ Rr (IeT K a) H1
theorem pi_enumT {X : Cx} {e : Expr} {ta : TA} {p pos tpos : Pos} {elts : List Expr} {kk : Nat} (hg : Gl X "enumerate") (hm : X.mg "enumerate" = none) (ha : PA X [e] ta) (hs : starEach [e] X.env = [(false, eval e X.env)]) :
    PI X (.Tuple elts kk tpos) (.Call (.Name "enumerate" p) [e] [] pos) (iEnumT X.K ta) := ⟨fun pins s σ H Rr I h =>
  Call_ (ld_blt I hg hm boot_enumerate (PyProof.Rows.callWith_type1 (thn (ha.run pos pins s σ H _ I h) fun us s1 ⟨vs, H1, I1, r1, a, xs, ex, hq, q⟩ => by
    subst ex
    obtain ⟨u, rfl, ru⟩ := vals1 r1
    cases ru
    obtain ⟨its, rv, tp, hz⟩ := I1.tuple hq
    refine call_enum1 (begins_tuple a its.toArray) tp fun h' he hit hk => wpAny_pyIter_enum he ?_
    refine ⟨s1.heap.objs.size + 1, [s1.heap.objs.size + 1, s1.heap.objs.size], _, _, H1, rfl, I1.kept (t' := s1.toks) hk, turn_enumT a (s1.heap.objs.size + 1) s1.heap.objs.size, ⟨⟨.none, he⟩, ⟨_, hit, rfl, rfl⟩, Nat.succ_ne_self _⟩, fun b hb => ?_, q⟩
    have le : s1.heap.objs.size ≤ b := by
      rcases List.mem_cons.mp hb with z | z
      · rw [z]; exact Nat.le_succ _
      · rw [List.mem_singleton.mp z]; exact Nat.le_refl _
    exact I1.fpOk le (I1.hok.fresh le)) hs rfl))⟩
theorem walk_enumT {K : PySem.W.Frag} {a : Addr} {xs : List V} : Walk (IeT K a) xs.length (fun H => SqT K H a xs) (YPair (fun i => some (.int (i : Nat))) (fun i => xs[i]?)) :=
  ⟨fun i _ hi q => ⟨xs, xs[i], q, by simp [hi]⟩, fun _ q => ⟨xs, q, Nat.le_refl _⟩, fun i H v H' _ q ⟨T, x, h1, h2, h3, h4⟩ => ⟨T, .int (i : Nat), x, h1, h2, h3, rfl, h4 xs q⟩⟩
/-- places and items -/
def enm {γ : Type} (l : List γ) : List (Int × γ) := l.zipIdx.map fun e => ((e.2 : Int), e.1)
theorem enm_len {γ : Type} {l : List γ} : (enm l).length = l.length := by simp [enm]
theorem enm_get {γ : Type} {l : List γ} {i : Nat} {x : γ} (h : l[i]? = some x) : (enm l)[i]? = some ((i : Int), x) := by
  unfold enm
  rw [List.getElem?_map, List.getElem?_zipIdx, h]
  simp
section
variable {X : Cx} {H0 : Hp} {G : List Slot} {e : Expr} {p pos tpos : Pos} {elts : List Expr} {kk : Nat} {γ : Type} [Im γ] {l : List γ}
theorem ei_enumT (hm : X.mg "enumerate" = none) (h : E X H0 G e (Val l)) (hg : Gl X "enumerate" := by rfl) (hs : starEach [e] X.env = [(false, eval e X.env)] := by rfl) : EI X H0 G (.Tuple elts kk tpos) (.Call (.Name "enumerate" p) [e] [] pos) (enm l) := fun σ H Rr h0 q =>
  pi_out (pi_enumT hg hm (pa_cons pe_in pa_nil hs) hs) (h σ H _ h0 fun v H1 s1 ⟨p, xs, e1, e2, e3⟩ => ⟨p, xs, by rw [e1], .inl (.inl e2), q _ H1 s1
    ⟨fun H => SqT X.K H p xs, YPair (fun i => some (.int (i : Nat))) (fun i => xs[i]?), by rw [enm_len, e3.len]; exact walk_enumT, fun H2 s2 => .inl (.inl (s2 _ _ (reb_cut h0.same _ _ (keep_cut s1 _ _ e2)))), fun i H2 v H3 s2 ⟨T, x, y, y1, y2, y3, y4, y5⟩ _ => by
      subst y3
      cases y4
      obtain ⟨z, y6, y7⟩ := Paired.get2 e3 y5
      exact ⟨Same.new y2, _, enm_get y6, T, _, _, y1, upd_same, rfl, Im.keep (KeepT.trans (keep_cut s1) (keepT (Same.trans (Same.trans (reb_cut h0.same) s2) (Same.new y2)))) y7⟩⟩⟩)
theorem ei_enumL (hm : X.mg "enumerate" = none) (h : E X H0 G e (Old H0 (Lst.mk l))) (hg : Gl X "enumerate" := by rfl) (hs : starEach [e] X.env = [(false, eval e X.env)] := by rfl) : EI X H0 G (.Tuple elts kk tpos) (.Call (.Name "enumerate" p) [e] [] pos) (enm l) := fun σ H Rr h0 q =>
  pi_out (pi_enum hg hm (pa_cons pe_in pa_nil hs) hs) (h σ H _ h0 fun v H1 s1 ⟨p, xs, e1, e2, e3⟩ => ⟨p, xs, by rw [e1], .inl (.inl (s1 _ _ (h0.same _ _ e2))), q _ H1 s1
    ⟨fun H => SqL X.K H p xs, YPair (fun i => some (.int (i : Nat))) (fun i => xs[i]?), by rw [enm_len, A2.len (l := l) e3]; exact walk_enum, fun H2 s2 => .inl (.inl (s2 _ _ (reb_old _ _ e2))), fun i H2 v H3 s2 ⟨T, x, y, y1, y2, y3, y4, y5⟩ _ => by
      subst y3
      cases y4
      obtain ⟨z, y6, y7⟩ := Paired.get2 e3 y5
      exact ⟨Same.new y2, _, enm_get y6, T, _, _, y1, upd_same, rfl, Ty.mono (Same.trans (Same.trans reb_old s2) (Same.new y2)) y7⟩⟩⟩)
end
end Lk

/-! LkR2 -/
set_option Elab.async false
set_option linter.all false
set_option maxRecDepth 100000
set_option maxHeartbeats 4000000
set_option autoImplicit false
/-! Rules that the hand layer lacks: sorted of a tuple of ints. -/
namespace Lk
open PySem PySem.Spec PyProof.Rows L2
open Ty (r)

section
variable {pr : Program} {wd : World} {Ar : Around} {Ee : Value → Shared → Prop} {st : Shared}
theorem collect_tup {t : Addr} {vs : List Value} {Qq : List Value → Shared → Prop} (ht : st.heap.IsTuple t vs.toArray) (hz : vs.length ≤ sizeLine)
    (k : Qq vs { st with heap := (st.heap.push (seqObj "list" #[] 0)).update st.heap.objs.size (Obj.mapSeq (· ++ vs.toArray)) }) : wpAny (model pr wd) Ar (collect (.ref t)) Qq Ee st := by
  obtain ⟨o, ho, hc, n, hd⟩ := id ht
  unfold collect
  refine wpAny_bind (wpAny_runValue (codeAny_builtin entry_proto_collect' ?_))
  refine wpAny_bind (m := newList []) (wpAny_newList (wpAny_pure ⟨Code.quiet_builtin _ (by decide +kernel), codeAny_builtin entry_list_iadd' ?_⟩))
  show wpAny _ _ (Builtin.List.listExtendWith (.ref st.heap.objs.size) (.ref t) (.ref st.heap.objs.size)) _ _ { st with heap := st.heap.push (seqObj "list" #[] 0) }
  have ho2 : (st.heap.push (seqObj "list" #[] 0)).get? t = some o := Heap.get?_push_of_some _ ho
  have hn : (st.heap.push (seqObj "list" #[] 0)).get? st.heap.objs.size = some (seqObj "list" #[] 0) := Heap.get?_push_size _ rfl
  unfold Builtin.List.listExtendWith
  refine wpAny_bind (wpAny_typeOf (T := "tuple") ⟨o, ho2, hc⟩ ?_)
  rw [if_pos (by rw [show (Value.type "tuple" == Value.type "tuple") = true from rfl]; simp)]
  refine wpAny_bind (listItems_at ho2 hd (wpAny_bind (listItems_at hn rfl ?_)))
  rw [if_neg (by simp)]
  refine wpAny_bind (listUpdate_at hn rfl ?_ (Nat.zero_le _) (by show (#[] ++ vs.toArray).size ≤ sizeLine + 1; simp only [Array.size_append, List.size_toArray, List.length_nil]; omega))
  refine wpAny_pure ?_
  refine wpAny_bind (m := load st.heap.objs.size) (wpAny_load (get?_update_seq hn _) ?_)
  show wpAny _ _ (pure ((#[] : Array Value) ++ vs.toArray).toList) Qq Ee _
  rw [show ((#[] : Array Value) ++ vs.toArray).toList = vs by simp]
  exact wpAny_pure k
theorem sorted_tupI {t : Addr} {vs : List Value} {ns : List Int} {Qq : Value → Shared → Prop} (ht : st.heap.IsTuple t vs.toArray) (hz : vs.length ≤ sizeLine) (hI : IntsAre vs ns)
    (k : ∀ (out : List Value) (ns' : List Int), IntsAre out ns' → ns'.Perm ns → ns'.Pairwise (· ≤ ·) → Qq (.ref (st.heap.objs.size + 1)) { st with heap := sortedAll st.heap vs out.toArray }) : wpAny (model pr wd) Ar (call (.builtin "sorted") [.ref t]) Qq Ee st := by
  refine Calls.call_function_entry kind_sorted plain_sorted entry_sorted (args_sorted1 _) ?_
  unfold Builtin.«sorted»
  refine wpAny_bind (m := checkCount "sorted" 1 1 _) (wpAny_pure (wpAny_bind (collect_tup ht hz (wpAny_bind (wpAny_newList ?_ hz)))))
  have sz : ((st.heap.push (seqObj "list" #[] 0)).update st.heap.objs.size (Obj.mapSeq (· ++ vs.toArray))).objs.size = st.heap.objs.size + 1 := by rw [Heap.size_update, size_push']
  show wpAny _ _ _ _ _ { st with heap := ((st.heap.push (seqObj "list" #[] 0)).update st.heap.objs.size (Obj.mapSeq (· ++ vs.toArray))).push (seqObj "list" vs.toArray 0) }
  have at1 : (((st.heap.push (seqObj "list" #[] 0)).update st.heap.objs.size (Obj.mapSeq (· ++ vs.toArray))).push (seqObj "list" vs.toArray 0)).get? (st.heap.objs.size + 1) = some (seqObj "list" vs.toArray 0) := by
    rw [← sz]
    exact Heap.get?_push_size _ rfl
  rw [sz]
  refine wpAny_bind (wpAny_holding (wpAny_call_entry slot_list_sort ⟨_, at1, rfl⟩ entry_list_sort (SrtO.list_sort_ord SrtO.swo_int at1 hz (fun h2 => SrtO.ints_sortable hI h2) fun out h1 h2 => ⟨_, rfl, ?_⟩) (args_list_sort _)))
  obtain ⟨k1, k2, k3⟩ := SrtO.ints_out hI h1 h2
  exact wpAny_pure ⟨_, rfl, k out _ k1 k2 k3⟩
end
/-- ints in order -/
def ins (x : Int) : List Int → List Int
  | [] => [x]
  | y :: l => if x ≤ y then x :: y :: l else y :: ins x l
def isort : List Int → List Int
  | [] => []
  | x :: l => ins x (isort l)
theorem ins_perm (x : Int) : ∀ l : List Int, (ins x l).Perm (x :: l)
  | [] => .refl _
  | y :: l => by
    unfold ins
    split
    · exact .refl _
    · exact ((ins_perm x l).cons y).trans (.swap x y l)
theorem isort_perm : ∀ l : List Int, (isort l).Perm l
  | [] => .refl _
  | x :: l => (ins_perm x _).trans ((isort_perm l).cons x)
theorem ins_sorted (x : Int) : ∀ l : List Int, l.Pairwise (· ≤ ·) → (ins x l).Pairwise (· ≤ ·)
  | [], _ => List.pairwise_singleton _ _
  | y :: l, h => by
    obtain ⟨h1, h2⟩ := List.pairwise_cons.mp h
    unfold ins
    split
    · rename_i hxy
      refine List.pairwise_cons.mpr ⟨fun z hz => ?_, h⟩
      rcases List.mem_cons.mp hz with rfl | hz
      · exact hxy
      · exact Int.le_trans hxy (h1 z hz)
    · rename_i hxy
      refine List.pairwise_cons.mpr ⟨fun z hz => ?_, ins_sorted x l h2⟩
      rcases List.mem_cons.mp ((ins_perm x l).mem_iff.mp hz) with rfl | hz
      · omega
      · exact h1 z hz
theorem isort_sorted : ∀ l : List Int, (isort l).Pairwise (· ≤ ·)
  | [] => .nil
  | x :: l => ins_sorted x _ (isort_sorted l)
theorem sorted_uniq : ∀ {l m : List Int}, l.Perm m → l.Pairwise (· ≤ ·) → m.Pairwise (· ≤ ·) → l = m
  | [], m, p, _, _ => p.symm.eq_nil ▸ rfl
  | a :: l, [], p, _, _ => absurd p.eq_nil (by simp)
  | a :: l, b :: m, p, h1, h2 => by
    obtain ⟨a1, a2⟩ := List.pairwise_cons.mp h1
    obtain ⟨b1, b2⟩ := List.pairwise_cons.mp h2
    have e : a = b := by
      have h3 : a ≤ b := by
        rcases List.mem_cons.mp (p.mem_iff.mpr (List.mem_cons_self (a := b))) with z | z
        · omega
        · exact a1 b z
      have h4 : b ≤ a := by
        rcases List.mem_cons.mp (p.mem_iff.mp (List.mem_cons_self (a := a))) with z | z
        · omega
        · exact b1 a z
      omega
    subst e
    rw [sorted_uniq (List.Perm.cons_inv p) a2 b2]
theorem isort_eq {l m : List Int} (p : m.Perm l) (h : m.Pairwise (· ≤ ·)) : m = isort l := sorted_uniq (p.trans (isort_perm l).symm) h (isort_sorted l)
section
variable {X : Cx}
def rSortTI (K : PySem.W.Frag) : List V → Hp → VK → Prop := fun vs H Q => ∃ (a : Addr) (ns : List Int), vs = [V.ref a] ∧ SqT K H a (ns.map V.int) ∧ ∀ p, H p = none → Q (.ref p) (upd H p (.lst ((isort ns).map V.int)))
theorem cr_sortTI : CallR X (.builtin "sorted") (rSortTI X.K) := by
  intro pins s σ H vs us Q I rr ⟨a, ns, e, hs, q⟩
  subst e
  obtain ⟨u, rfl, ru⟩ := vals1 rr
  cases ru
  obtain ⟨its, rv, tp, hz⟩ := I.tuple hs
  refine sorted_tupI tp (by rw [← rv.length]; exact hz) rv.ints fun out ns' h1 h2 h3 => ?_
  obtain ⟨ep, at2⟩ := sortedAll_at s.heap its out.toArray
  have en := isort_eq h2 h3
  have np : H (s.heap.objs.size + 1) = none := I.hok.fresh (Nat.le_succ _)
  refine ⟨.ref (s.heap.objs.size + 1), upd H (s.heap.objs.size + 1) (.lst ((isort ns).map V.int)), I.laid (t' := s.toks) (fun _ _ => sortedAll_old) (Nat.le_succ _) ⟨?_, out, ep, by rw [← en]; exact vals_of_ints h1, at2⟩, rfl, q _ np⟩
  rw [List.length_map, (isort_perm ns).length_eq]
  rw [List.length_map] at hz
  exact hz
variable {H0 : Hp} {G : List Slot} {a b : Expr} {p pos : Pos}
theorem e_sortT {l : List Int} (hm : X.mg "sorted" = none) (ha : E X H0 G a (Val l)) (hg : Gl X "sorted" := by rfl) (hs : starEach [a] X.env = (false, eval a X.env) :: starEach [] X.env := by rfl) (hpl : (backTo pos (starEach [] X.env)).any (·.1) = false := by rfl) :
    E X H0 G (.Call (.Name "sorted" p) [a] [] pos) (New (Lst.mk (isort l))) := e_callB1 cr_sortTI hm boot_sorted ha (fun v H Q ⟨q, xs, e1, e2, e3⟩ k => ⟨q, l, by rw [e1], .inl (.inl (by rw [e2, A2.ints e3])), fun m hm => k _ _ (Same.new hm) ⟨m, _, rfl, cut_new hm upd_same, A2.of_ints⟩⟩) hg (by decide) (by decide) hs hpl
theorem e_sortL {l : List Int} (hm : X.mg "sorted" = none) (ha : E X H0 G a (Val (Lst.mk l))) (hg : Gl X "sorted" := by rfl) (hs : starEach [a] X.env = (false, eval a X.env) :: starEach [] X.env := by rfl) (hpl : (backTo pos (starEach [] X.env)).any (·.1) = false := by rfl) :
    E X H0 G (.Call (.Name "sorted" p) [a] [] pos) (New (Lst.mk (isort l))) := e_callB1 cr_sortedI hm boot_sorted ha (fun v H Q ⟨q, xs, e1, e2, e3⟩ k => ⟨q, l, by rw [e1], .inl (.inl (by rw [e2, A2.ints (l := l) e3])), fun ns' m pm pw hm => by
    rw [isort_eq pm pw]
    exact k _ _ (Same.new hm) ⟨m, _, rfl, cut_new hm upd_same, A2.of_ints⟩⟩) hg (by decide) (by decide) hs hpl
/-- sorted(dict by ints) -/
theorem e_sortK {α : Type} [Ty α] {l : List (Int × α)} (hc : X.calm = true) (hm : X.mg "sorted" = none) (hl : l.length < 64) (ha : E X H0 G a (Val (Dic.mk l))) (hg : Gl X "sorted" := by rfl) (hs : starEach [a] X.env = (false, eval a X.env) :: starEach [] X.env := by rfl) (hpl : (backTo pos (starEach [] X.env)).any (·.1) = false := by rfl) :
    E X H0 G (.Call (.Name "sorted" p) [a] [] pos) (New (Lst.mk (isort (l.map (·.1))))) := e_callB1 (call_sortedDI hc) hm boot_sorted ha (fun v H Q ⟨q, kvs, e1, e2, e3⟩ k => ⟨q, kvs, l.map (·.1), by rw [e1], .inl e2, by
      have z : ∀ {l : List (Int × α)} {kvs : List (Key × V)}, KVs l kvs H → kvs.map (·.1) = (l.map (·.1)).map Sum.inl := fun {l kvs} h => by
        induction h with
        | nil => rfl
        | cons h1 _ ih => rw [List.map_cons, List.map_cons, List.map_cons, ih, h1.1]
      exact z e3, by rw [List.length_map]; exact hl, fun ys m pm pw hm => by
        rw [isort_eq pm pw]
        exact k _ _ (Same.new hm) ⟨m, _, rfl, cut_new hm upd_same, A2.of_ints⟩⟩) hg (by decide) (by decide) hs hpl
end
end Lk

/-! LkR3 -/
set_option Elab.async false
set_option linter.all false
set_option maxRecDepth 100000
set_option maxHeartbeats 4000000
set_option autoImplicit false
/-! Rules that the hand layer lacks: a set comprehension whose items are ints. -/
namespace Lk
open PySem PySem.Spec PyProof.Rows L2
open Ty (r)

section
variable {X : Cx}
/-- an int added to the set at D -/
theorem add_int_ok {pins : List (Addr × Obj)} {σ : L2.St} {H : Hp} {s : Shared} {Ee : Value → Shared → Prop} {Dl : Addr} {S : Int → Bool} {n : Nat} {y : Int} {ty : Tok} {Qq : Value → Shared → Prop} (I : Inv X pins σ H s) (hD : H Dl = some (SetO X.w Dl S n)) (room : n + 1 < scanBound)
    (k : ∀ s', Inv X pins σ (upd H Dl (SetO X.w Dl (fun j => S j || decide (j = y)) (if S y = true then n else n + 1))) s' → Qq .none s') : wpAny (model X.prog X.w) X.A (call (.builtin "set.add") [.ref Dl, .int y ty]) Qq Ee s :=
  setR_add (setO_get I hD) room fun h' sb new => by
    have ex : ∃ u, h'.get? Dl = some u := let ⟨o, _, _, _, ho, _⟩ := new; ⟨o, ho⟩
    exact k _ (I.write (e := Dl) (t' := s.toks + 1) (by rw [hD]; trivial) (.inl rfl) (fun b u hb hu => (sb.2 b hb).trans hu) ex (setO_new new))
def tScI (w : World) (wi : TI) (g : TG) (tt : TT) (te : TE) (vs : List Nat) : TE := fun σ H Q => wi σ H fun J H1 => ∀ Dl, H1 Dl = none → ∃ W : Nat → Nat → Hp → Prop, (∃ m, W 0 m (upd H1 Dl (SetO w Dl (fun _ => false) 0))) ∧ ∀ i m H, W i m H →
  (J.stop i H ∧ Q (.ref Dl) H) ∨ (J.go i H ∧ ∃ Nx : Hp → Prop, (∀ H', Nx H' → ∃ m', m' < m ∧ W (i + 1) m' H') ∧ ∀ x H', J.yld i H x H' → g x (wipe σ vs) H' fun σ2 H2 => wipe σ2 vs = wipe σ vs ∧ tt σ2 H2 fun b H3 =>
    if b = true then te σ2 H3 fun y H4 => ∃ (z : Int) (S : Int → Bool) (n : Nat), y = .int z ∧ H4 Dl = some (SetO w Dl S n) ∧ n + 1 < scanBound ∧ Nx (upd H4 Dl (SetO w Dl (fun j => S j || decide (j = z)) (if S z = true then n else n + 1))) else Nx H3)
theorem pe_scI {elt tg iter : Expr} {ifs : List Expr} {scope : Scope} {own : List (Str × Nat)} {pos : Pos} {wi : TI} {g : TG} {tt : TT} {te : TE} (hc : X.calm = true) (hN : X.N.Nodup) (hi : PI X tg iter wi) (ok : BlkOk X.N X.env.scope scope own)
    (hg : ∀ (s : Shared) (H : Hp) (C : Addr) (cl : List (Str × Addr)) (fp : List Addr), PG (X.blk s H scope (compEnvC scope cl C X.env) fp) tg g)
    (ht : ∀ (s : Shared) (H : Hp) (C : Addr) (cl : List (Str × Addr)) (fp : List Addr), PTs (X.blk s H scope (compEnvC scope cl C X.env) fp) ifs tt)
    (he : ∀ (s : Shared) (H : Hp) (C : Addr) (cl : List (Str × Addr)) (fp : List Addr), PE (X.blk s H scope (compEnvC scope cl C X.env) fp) elt te) (hs : ∀ x, foldedSetIterable iter X.env x = pure x := by intro _; rfl) :
    PE X (.SetComp elt [⟨tg, iter, ifs, 0⟩] scope pos) (tScI X.w wi g tt te (own.map (·.2))) := ⟨fun pins s σ H Q I h => by
  rw [PpSet.eval_SetComp]
  have clo : ∀ y ∈ scope.names, y.2 = .free → ∃ c, X.env.cells.lookup y.1 = some c := fun y hy e => (ok.free y hy e).elim (fun k => I.ok.has _ (.inl k)) fun k => I.ok.has _ (.inr k)
  refine wpAny_comprehension_free (use := none) rfl hs (closure_ok clo) ok.kind (fun y hy e => by rw [ok.uniq y hy, e]) (thn (hi.run pins s σ H _ I h) fun _ sA hA => thn hA fun _ sB ⟨it, fp, tn, J, HB, eit, IB, Tn, stB, fB, q⟩ => ?_)
  subst eit
  refine PpSet.newSet_ok (newEnv_comp ?_)
  obtain ⟨Dl, eD⟩ : ∃ Dl, sB.heap.objs.size = Dl := ⟨_, rfl⟩
  have nD : HB Dl = none := IB.hok.fresh (Nat.le_of_eq eD)
  obtain ⟨W, ⟨m0, w0⟩, turn⟩ := q Dl nD
  obtain ⟨sC, eC⟩ : ∃ sC : Shared, ({ sB with heap := sB.heap.push { cls := .type "set", dict := none, data := .set #[] 0 (.fresh 0 0 (!X.w.params.followText "set-order")) } } : Shared) = sC := ⟨_, rfl⟩
  have hC : sC.heap = sB.heap.push { cls := .type "set", dict := none, data := .set #[] 0 (.fresh 0 0 (!X.w.params.followText "set-order")) } := by rw [← eC]
  obtain ⟨HC, eH⟩ : ∃ HC, upd HB Dl (SetO X.w Dl (fun _ => false) 0) = HC := ⟨_, rfl⟩
  rw [eH] at w0
  have IC : Inv X pins σ HC sC := by
    rw [← eC, ← eH]
    exact IB.laid (t' := sB.toks) (fun b o e => Heap.get?_push_of_some _ e) (Nat.le_of_eq eD) (by rw [← eD]; exact setO_new (setR_fresh X.w))
  have ltB : ∀ b ∈ fp, b < sB.heap.objs.size := fun b hb => let ⟨o, e, _⟩ := Tn.obj _ _ stB b hb; Heap.lt_size e
  have fC : ∀ b ∈ fp, FpOk X pins HC b ∧ b < sC.heap.objs.size := fun b hb => by
    have lt := ltB b hb
    refine ⟨⟨?_, (fB b hb).2⟩, by rw [hC, Heap.size_push]; exact Nat.lt_succ_of_lt lt⟩
    rw [← eH, upd_ne (by rw [← eD]; exact Nat.ne_of_lt lt)]
    exact (fB b hb).1
  have stC : tn 0 sC.heap := Tn.keep _ _ _ stB fun b _ o e => by rw [hC]; exact Heap.get?_push_of_some _ e
  have IK := block_start IC ok hN fC
  have a1 := hg sC HC sC.heap.objs.size (cellsFrom (sC.heap.objs.size + 1) scope.names (cloFrom X.env.cells scope.names [])) fp
  have a2 := ht sC HC sC.heap.objs.size (cellsFrom (sC.heap.objs.size + 1) scope.names (cloFrom X.env.cells scope.names [])) fp
  have a3 := he sC HC sC.heap.objs.size (cellsFrom (sC.heap.objs.size + 1) scope.names (cloFrom X.env.cells scope.names [])) fp
  show codeAny _ _ (.compStart (.SetComp elt [⟨tg, iter, ifs, 0⟩] scope pos) 0 (.ref it) (.ref sB.heap.objs.size) (compEnvC scope (cellsFrom ((sB.heap.push { cls := .type "set", dict := none, data := .set #[] 0 (.fresh 0 0 (!X.w.params.followText "set-order")) }).objs.size + 1) scope.names (cloFrom X.env.cells scope.names [])) (sB.heap.push { cls := .type "set", dict := none, data := .set #[] 0 (.fresh 0 0 (!X.w.params.followText "set-order")) }).objs.size X.env)) _ _
  rw [← hC, eD]
  obtain ⟨ce, ece⟩ : ∃ ce, compEnvC scope (cellsFrom (sC.heap.objs.size + 1) scope.names (cloFrom X.env.cells scope.names [])) sC.heap.objs.size X.env = ce := ⟨_, rfl⟩
  rw [ece] at IK a1 a2 a3 ⊢
  have cL : ce.locals = sC.heap.objs.size := by rw [← ece]; rfl
  have eK : ({ sB with heap := pushCells (sC.heap.push { cls := .type "dict", data := .dict #[] }) scope.names } : Shared) = { sC with heap := pushCells (sC.heap.push { cls := .type "dict", data := .dict #[] }) scope.names } := by rw [← eC]
  show codeAny _ _ _ (compPost (model X.prog X.w) X.A X.xe none (EP X pins σ Q) (.ref Dl) sC.heap.objs.size) ({ sB with heap := pushCells (sC.heap.push { cls := .type "dict", data := .dict #[] }) scope.names } : Shared)
  rw [eK]
  have stK : tn 0 (pushCells (sC.heap.push { cls := .type "dict", data := .dict #[] }) scope.names) := Tn.keep _ _ _ stC fun b _ o e => pushCells_keeps _ _ _ _ (Heap.get?_push_of_some _ e)
  have inK : ∀ {τ : L2.St} {H' : Hp} {s' : Shared}, Inv (X.blk sC HC scope ce fp) [] τ H' s' → (∀ b ∈ fp, H' b = none) → ∀ b ∈ fp, FpOk (X.blk sC HC scope ce fp) [] H' b := fun {τ H' s'} I' hn b hb =>
    ⟨hn b hb, (I'.ok.exf b hb).1, I'.ok.exfs b hb, .inl hb, fun x c e => (I'.ok.exf b hb).2 x c e, fun p hp => absurd (show p ∈ ([] : List (Addr × Obj)) ++ [] from hp) (by simp)⟩
  have loop : codeAny (model X.prog X.w) X.A (.compLoop (.SetComp elt [⟨tg, iter, ifs, 0⟩] scope pos) 0 (.ref it) (.ref Dl) ce) (compPost (model X.prog X.w) X.A X.xe none (EP X pins σ Q) (.ref Dl) sC.heap.objs.size) { sC with heap := pushCells (sC.heap.push { cls := .type "dict", data := .dict #[] }) scope.names } := by
    refine PpSet.compLoopS_any (fun n s' => ∃ i H', Inv (X.blk sC HC scope ce fp) [] (wipe σ (own.map (·.2))) H' s' ∧ tn i s'.heap ∧ (∀ b ∈ fp, H' b = none) ∧ W i n H') ?_ m0 ⟨0, HC, IK, stK, fun b hb => (fC b hb).1.1, w0⟩
    rintro n sM ⟨i, HM, IM, stM, nM, wM⟩
    rcases turn i n HM wM with ⟨stop, qq⟩ | ⟨go, Nx, hNx, step⟩
    · refine thnF (Tn.done (X.blk sC HC scope ce fp) rfl rfl rfl hc i [] sM _ HM (fun _ _ => False) IM (inK IM nM) stM stop) fun rr sN ⟨er, IN⟩ => ?_
      subst er
      have back : Inv X pins σ HM sN := IC.call' (ch := fp) IN.os IN.base IN.hok IN.bare fun b hb => ⟨(fC b hb).1.2.2.2.1, (fC b hb).1.2.1, (fC b hb).1.2.2.2.2.1, (fC b hb).1.2.2.2.2.2⟩
      have nL : HM sC.heap.objs.size = none := by
        have z : HM ce.locals = none := IN.free
        rwa [cL] at z
      obtain ⟨m, hn, _⟩ := IN.loc
      have hn : sN.heap.Ns ce.locals m := hn
      rw [cL] at hn
      have fo := IC.fpOk (H' := HM) (Nat.le_refl _) nL
      exact ⟨m, hn, fun h2 sb => ⟨.ref Dl, HM, back.turned (t' := sN.toks) (fun b o hb e => (sb.2 b hb).trans e) fo.1 fo.2.1 fo.2.2.2.1 fo.2.2.2.2.1 fo.2.2.2.2.2, rfl, qq⟩⟩
    · refine thnF (Tn.item (X.blk sC HC scope ce fp) rfl rfl rfl hc i [] sM _ HM (fun _ _ => False) IM (inK IM nM) stM go) fun rr sN ⟨u, er, hN2⟩ => ?_
      subst er
      refine thnF hN2 fun _ sO ⟨x, HO, IO, rO, yO, stO, nO⟩ => ?_
      have IO2 := IO.pinned (inK IO nO) (Tn.obj _ _ stO)
      refine thnF (a1.run _ sO _ HO x u _ IO2 rO (step x HO yO)) fun _ sP ⟨σP, HP, IP, hwP, qP⟩ => ?_
      refine thnF (a2.run _ sP σP HP _ IP qP) fun b sQ ⟨HQ, IQ, qQ⟩ => ?_
      have nextT : ∀ {s' : Shared} {H' : Hp}, Inv (X.blk sC HC scope ce fp) ([] ++ pinsAt fp sO.heap) σP H' s' → Nx H' → ∃ m, m < n ∧ ∃ i H', Inv (X.blk sC HC scope ce fp) [] (wipe σ (own.map (·.2))) H' s' ∧ tn i s'.heap ∧ (∀ b ∈ fp, H' b = none) ∧ W i m H' := fun {s' H'} I' nx => by
        obtain ⟨m', hm, w'⟩ := hNx H' nx
        have pin' : ∀ b ∈ fp, ∀ o, sO.heap.get? b = some o → s'.heap.get? b = some o ∧ H' b = none := fun b hb o e =>
          have z := I'.pin (b, o) (List.mem_append_right _ (List.mem_append_right _ (mem_pinsAt hb e)))
          ⟨z.1, z.2.1⟩
        refine ⟨m', hm, i + 1, H', (I'.unpinned (pins := [])).weak (by rw [← hwP, wipe_length]) (fun j v e => ?_), Tn.keep _ _ _ stO fun b hb o e => (pin' b hb o e).1, fun b hb => ?_, w'⟩
        · rw [← hwP] at e
          exact (wipe_some e).1
        · obtain ⟨o, e, _⟩ := Tn.obj _ _ stO b hb
          exact (pin' b hb o e).2
      cases b with
      | false =>
        rw [if_neg (by decide)] at qQ
        rw [if_neg (by decide)]
        exact nextT IQ qQ
      | true =>
        rw [if_pos rfl] at qQ
        rw [if_pos rfl]
        refine thnF (a3.run _ sQ σP HQ _ IQ qQ) fun zv sR ⟨yv, HR, IR, rR, z, S, n0, ey, hDR, hzR, nx⟩ => ?_
        subst ey
        obtain ⟨tz, rfl⟩ := rR
        exact add_int_ok (X := X.blk sC HC scope ce fp) IR hDR hzR fun sS IS => nextT IS nx
  exact PpSet.codeAny_compStart_set loop (Tn.self X.A 0 _ _ _ stK loop)⟩
end
end Lk

/-! LkN -/
set_option Elab.async false
set_option linter.all false
set_option maxRecDepth 100000
set_option maxHeartbeats 4000000
set_option autoImplicit false
/-! The layer: owned lists and dicts written, dicts read, loops by a state. -/
namespace Lk
open PySem PySem.Spec PyProof.Rows L2
open Ty (r)

/-! ### slots fewer -/
inductive Sub : List Slot → List Slot → Prop
  | nil : Sub [] []
  | keep (s : Slot) {G G' : List Slot} : Sub G G' → Sub (s :: G) (s :: G')
  | drop (s : Slot) {G G' : List Slot} : Sub G G' → Sub (s :: G) (.no :: G')
theorem Sub.len {G G' : List Slot} (h : Sub G G') : G.length = G'.length := by
  induction h with
  | nil => rfl
  | keep s _ ih => simp [ih]
  | drop s _ ih => simp [ih]
theorem Sub.get {G G' : List Slot} (h : Sub G G') : ∀ {i : Nat} {s : Slot}, G'[i]? = some s → s = .no ∨ G[i]? = some s := by
  induction h with
  | nil => intro i s e; exact .inr e
  | keep t _ ih =>
    intro i s e
    cases i with
    | zero => exact .inr e
    | succ i => exact ih (i := i) (by simpa using e) |>.imp id fun z => by simpa using z
  | drop t _ ih =>
    intro i s e
    cases i with
    | zero => exact .inl (by simpa using e.symm)
    | succ i => exact ih (i := i) (by simpa using e) |>.imp id fun z => by simpa using z
theorem Sub.refl : ∀ (G : List Slot), Sub G G
  | [] => .nil
  | s :: G => .keep s (Sub.refl G)
theorem At.sub {H0 H : Hp} {G G' : List Slot} {σ : L2.St} (h : At H0 G σ H) (u : Sub G G') : At H0 G' σ H := by
  refine ⟨h.len.trans u.len, fun i s e => ?_, fun i j s t v e1 e2 o1 o2 q1 q2 => ?_, h.same⟩
  · rcases u.get e with rfl | e'
    · have il : i < σ.length := by
        rw [h.len, u.len]
        exact (List.getElem?_eq_some_iff.mp e).1
      exact ⟨σ[i], by simp [il], trivial⟩
    · exact h.at_ i s e'
  · rcases u.get e1 with rfl | e1'
    · exact o1.elim
    · rcases u.get e2 with rfl | e2'
      · exact o2.elim
      · exact h.apart i j s t v e1' e2' o1 o2 q1 q2
theorem Slot.no_not_own {s : Slot} (h : s.isOwn) : s ≠ .no := fun e => by rw [e] at h; exact h
/-- an owned thing is written -/
theorem At.put {H0 H : Hp} {G : List Slot} {σ : L2.St} {s s' : Slot} {j : Nat} {p : Addr} {o : HO} (h : At H0 G σ H) (hG : G[j]? = some s) (os : s.isOwn) (hv : σ[j]? = some (some (.ref p))) (os' : s'.isOwn) (ok' : s'.ok H0 (.ref p) (upd H p o)) : At H0 (G.set j s') σ (upd H p o) := by
  obtain ⟨v, e1, q⟩ := h.get hG (Slot.no_not_own os)
  rw [hv] at e1
  cases e1
  obtain ⟨p', u, e2, n0, hu, nt⟩ := Slot.own_new os q
  cases e2
  have kt : KeepT H (upd H p o) := fun b xs e => by
    have ne : b ≠ p := fun z => by
      subst z
      rw [hu] at e
      exact nt xs (Option.some.inj e)
    rw [upd_ne ne]
    exact e
  refine ⟨by rw [List.length_set]; exact h.len, fun i t e => ?_, fun i k t u w e1 e2 o1 o2 q1 q2 => ?_, fun b o' e => ?_⟩
  · rw [List.getElem?_set] at e
    by_cases hj : j = i
    · subst hj
      simp only [if_true] at e
      split at e
      · cases e
        exact ⟨some (.ref p), hv, Slot.at_some ok'⟩
      · cases e
    · rw [if_neg hj] at e
      obtain ⟨o', e1, e2⟩ := h.at_ i t e
      refine ⟨o', e1, ?_⟩
      have far : t.isOwn → ∀ p', o' = some (.ref p') → p' ≠ p := fun ot p' ep z => by
        subst z
        exact hj (h.apart j i s t (.ref p') hG e os ot hv (by rw [e1, ep]))
      cases t with
      | no => trivial
      | @im α _ a => obtain ⟨v, ev, q⟩ := e2; exact ⟨v, ev, Im.keep (α := α) kt q⟩
      | old a => exact e2
      | own l =>
        obtain ⟨v, ev, p', xs, q1, q2, q3, q4⟩ := e2
        have := far trivial p' (by rw [ev, q1])
        exact ⟨v, ev, p', xs, q1, q2, by rw [upd_ne this]; exact q3, q4.keep kt⟩
      | ownK l =>
        obtain ⟨v, ev, p', xs, q1, q2, q3, q4⟩ := e2
        have := far trivial p' (by rw [ev, q1])
        exact ⟨v, ev, p', xs, q1, q2, by rw [upd_ne this]; exact q3, q4.keep kt⟩
      | ownT l =>
        obtain ⟨v, ev, p', q1, q2, q3⟩ := e2
        have := far trivial p' (by rw [ev, q1])
        exact ⟨v, ev, p', q1, q2, by rw [upd_ne this]; exact q3⟩
  · by_cases ni : j = i
    · subst ni
      by_cases nk : j = k
      · exact nk
      · rw [List.getElem?_set_ne nk] at e2
        exact h.apart j k s u w hG e2 os o2 q1 q2
    · rw [List.getElem?_set_ne ni] at e1
      by_cases nk : j = k
      · subst nk
        exact h.apart i j t s w e1 hG o1 os q1 q2
      · rw [List.getElem?_set_ne nk] at e2
        exact h.apart i k t u w e1 e2 o1 o2 q1 q2
  · have ne : b ≠ p := fun z => by
      subst z
      rw [n0] at e
      cases e
    rw [upd_ne ne]
    exact h.same b o' e

section
variable {X : Cx} {H0 He : Hp} {G : List Slot} {e a b c d tg : Expr} {es : List Expr} {pos p p1 p2 p' : Pos} {ρ : Res} {R : Ars} {D : Ends} {st : Stmt} {rest body els : List Stmt} {k : Bool} {x y : Int}
theorem B.sub {G' : List Slot} (h : B X H0 G' body D) (u : Sub G G') : B X H0 G body D := fun σ H h0 => h σ H (h0.sub u)
theorem E.some {α : Type} [Im α] {u : α} (h : E X H0 G e (Val (some u))) : E X H0 G e (Val u) := h

/-! ### owned lists written -/
theorem kt_own {H : Hp} {p : Addr} {xs : List V} {o : HO} (e : H p = some (.lst xs)) : KeepT H (upd H p o) := fun b ys q => by
  have ne : b ≠ p := fun z => by subst z; rw [e] at q; cases q
  rw [upd_ne ne]; exact q
theorem kt_dK {H : Hp} {p : Addr} {xs : List (Key × V)} {o : HO} (e : H p = some (.dK xs)) : KeepT H (upd H p o) := fun b ys q => by
  have ne : b ≠ p := fun z => by subst z; rw [e] at q; cases q
  rw [upd_ne ne]; exact q
/-- x.append(e) -/
theorem b_app (j : Nat) {α : Type} [Im α] {l : List α} {u : α} {n : Str} (he : E X H0 G e (Val u)) (hr : B X H0 (G.set j (.own (l ++ [u]))) rest D) (hl : l.length < 1000000) (hG : G[j]? = some (.own l) := by rfl) (hN : X.N[j]? = some n := by rfl) (hv : Vis X.env.scope n := by first | exact Or.inl rfl | exact Or.inr (Or.inl rfl) | exact Or.inr (Or.inr rfl))
    (hd : (n == ("__debug__" : Str)) = false := by decide) (hcd : (n == ("__classdict__" : Str)) = false := by decide) (hs : starEach [e] X.env = (false, eval e X.env) :: starEach [] X.env := by rfl)
    (hb : attributeBase (.Name n p1) "append" X.env (eval (.Name n p1) X.env) = eval (.Name n p1) X.env := by rfl) (hline : (p2.endLine == p'.line) = true := by rfl)
    (hfew : ((backTo p' (starEach [e] X.env)).all (fun x => !x.1) && (backToKw p' (keywordEach [] X.env)).all (fun x => x.1.isSome) && decide ([e].length + ([] : List Keyword).length + (if ([] : List Keyword).isEmpty then 0 else 1) < 30)) = true := by rfl) (hpl : (backTo p' (starEach [] X.env)).any (·.1) = false := by rfl)
    (hsw : swapsWith (.Call (.Attribute (.Name n p1) "append" p2) [e] [] p') none pos.line X.env = pure false := by rfl) : B X H0 G (.Expr (.Call (.Attribute (.Name n p1) "append" p2) [e] [] p') pos :: rest) D := B.seq fun σ H h0 => by
  obtain ⟨v, e1, q, xs, rfl, e3, e4, e5⟩ := h0.get hG (by intro z; cases z)
  refine ps_out (ps_expr (pe_bm F.plainAttrs_list F.slot_list_append F.type_list_append mt_append (pe_var hN hv hd hcd) (pa_cons pe_in pa_nil hs) hb hfew hline hs hpl) hsw) ?_
  refine ⟨_, e1, .inl ⟨rfl, xs, .inl (.inl e4)⟩, he σ H _ h0 fun w H1 s1 p1 => ⟨q, xs, w, rfl, rfl, s1 _ _ e4, ?_, ?_⟩⟩
  · rw [← A2.len (l := l) e5]
    have : sizeLine = 16777216 := by decide
    omega
  · have h1 := h0.ext s1
    refine hr σ _ (h1.put hG trivial e1 trivial ⟨q, _, rfl, e3, upd_same, ?_⟩)
    have kt := kt_own (o := .lst (xs ++ [w])) (s1 _ _ e4)
    exact Paired.app (A2.keep kt (A2.mono s1 e5)) (.cons (Im.keep kt p1) .nil)
/-- x.extend(e), e a new list -/
theorem b_extend (j : Nat) {α : Type} [Im α] {l m : List α} {n : Str} (he : E X H0 G e (New (Lst.mk m))) (hr : B X H0 (G.set j (.own (l ++ m))) rest D) (hl : l.length + m.length < 1000000) (hG : G[j]? = some (.own l) := by rfl) (hN : X.N[j]? = some n := by rfl) (hv : Vis X.env.scope n := by first | exact Or.inl rfl | exact Or.inr (Or.inl rfl) | exact Or.inr (Or.inr rfl))
    (hd : (n == ("__debug__" : Str)) = false := by decide) (hcd : (n == ("__classdict__" : Str)) = false := by decide) (hs : starEach [e] X.env = (false, eval e X.env) :: starEach [] X.env := by rfl)
    (hb : attributeBase (.Name n p1) "extend" X.env (eval (.Name n p1) X.env) = eval (.Name n p1) X.env := by rfl) (hline : (p2.endLine == p'.line) = true := by rfl)
    (hfew : ((backTo p' (starEach [e] X.env)).all (fun x => !x.1) && (backToKw p' (keywordEach [] X.env)).all (fun x => x.1.isSome) && decide ([e].length + ([] : List Keyword).length + (if ([] : List Keyword).isEmpty then 0 else 1) < 30)) = true := by rfl) (hpl : (backTo p' (starEach [] X.env)).any (·.1) = false := by rfl)
    (hsw : swapsWith (.Call (.Attribute (.Name n p1) "extend" p2) [e] [] p') none pos.line X.env = pure false := by rfl) : B X H0 G (.Expr (.Call (.Attribute (.Name n p1) "extend" p2) [e] [] p') pos :: rest) D := B.seq fun σ H h0 => by
  obtain ⟨v, e1, q, xs, rfl, e3, e4, e5⟩ := h0.get hG (by intro z; cases z)
  refine ps_out (ps_expr (pe_bm F.plainAttrs_list F.slot_list_extend F.type_list_extend mt_extend (pe_var hN hv hd hcd) (pa_cons pe_in pa_nil hs) hb hfew hline hs hpl) hsw) ?_
  refine ⟨_, e1, .inl ⟨rfl, xs, .inl (.inl e4)⟩, he σ H _ h0 fun w H1 s1 ⟨t, ys, ew, t1, t2⟩ => ⟨q, t, xs, ys, rfl, by rw [ew], s1 _ _ e4, cut_some s1 _ _ t1, ?_, ?_⟩⟩
  · rw [← A2.len (l := l) e5, ← A2.len (l := m) t2]
    have : sizeLine = 16777216 := by decide
    omega
  · have h1 := h0.ext s1
    refine hr σ _ (h1.put hG trivial e1 trivial ⟨q, _, rfl, e3, upd_same, ?_⟩)
    have kt := kt_own (o := .lst (xs ++ ys)) (s1 _ _ e4)
    exact Paired.app (A2.keep kt (A2.mono s1 e5)) (A2.keep (l := m) kt (A2.mono (l := m) (cut_some s1) t2))
/-! ### dicts -/
def dget {α : Type} (l : List (Int × α)) (i : Int) : Option α := (l.find? fun e => decide (e.1 = i)).map (·.2)
def dput {α : Type} (l : List (Int × α)) (i : Int) (u : α) : List (Int × α) := if (l.any fun e => decide (e.1 = i)) = true then l.map (fun e => if e.1 = i then (e.1, u) else e) else l ++ [(i, u)]
theorem inl_dec (i j : Int) : decide ((Sum.inl i : Key) = .inl j) = decide (i = j) := by
  by_cases h : i = j
  · subst h; simp
  · rw [decide_eq_false h, decide_eq_false (fun z => h (Sum.inl.inj z))]
theorem KVs.get {α : Type} [Ty α] {H : Hp} {i : Int} : ∀ {l : List (Int × α)} {kvs : List (Key × V)}, KVs l kvs H → (∀ u, dget l i = some u → ∃ v, valV kvs (.inl i) = some v ∧ r u v H) ∧ (dget l i = none → valV kvs (.inl i) = none)
  | [], _, .nil => ⟨fun u e => by simp [dget] at e, fun _ => rfl⟩
  | (j, u) :: l, (kk, v) :: kvs, .cons ⟨h1, h2⟩ t => by
    have h1 : kk = .inl j := h1
    subst h1
    by_cases hj : j = i
    · subst hj
      have d1 : dget ((j, u) :: l) j = some u := by simp [dget]
      have d2 : valV ((Sum.inl j, v) :: kvs) (.inl j : Key) = some v := valV_pos rfl
      rw [d1, d2]
      exact ⟨fun w e => ⟨v, rfl, by cases e; exact h2⟩, fun e => by cases e⟩
    · have d1 : dget ((j, u) :: l) i = dget l i := by simp [dget, hj]
      have d2 : valV ((Sum.inl j, v) :: kvs) (.inl i : Key) = valV kvs (.inl i) := valV_neg fun z => hj (Sum.inl.inj z)
      rw [d1, d2]
      exact KVs.get t
theorem KVs.any {α : Type} [Ty α] {H : Hp} {i : Int} : ∀ {l : List (Int × α)} {kvs : List (Key × V)}, KVs l kvs H → (kvs.any fun kv => decide (kv.1 = .inl i)) = l.any fun e => decide (e.1 = i)
  | [], _, .nil => rfl
  | (j, u) :: l, (kk, v) :: kvs, .cons ⟨h1, h2⟩ t => by
    have h1 : kk = .inl j := h1
    subst h1
    rw [List.any_cons, List.any_cons, KVs.any t, inl_dec]
theorem KVs.put {α : Type} [Ty α] {H : Hp} {i : Int} {u : α} {v : V} {l : List (Int × α)} {kvs : List (Key × V)} (h : KVs l kvs H) (hv : r u v H) : KVs (dput l i u) (putK kvs (.inl i) v) H := by
  unfold dput putK
  rw [KVs.any h]
  by_cases hk : (l.any fun e => decide (e.1 = i)) = true
  · rw [if_pos hk, if_pos hk]
    have go : ∀ {l : List (Int × α)} {kvs : List (Key × V)}, KVs l kvs H → KVs (l.map fun e => if e.1 = i then (e.1, u) else e) (kvs.map fun kv => if kv.1 = .inl i then (kv.1, v) else kv) H := fun {l kvs} q => by
      induction q with
      | nil => exact .nil
      | @cons a b l m q1 _ ih =>
        obtain ⟨j, w⟩ := a
        obtain ⟨kk, z⟩ := b
        obtain ⟨q1, q2⟩ := q1
        have q1 : kk = .inl j := q1
        subst q1
        refine .cons ?_ ih
        show (if (Sum.inl j : Key) = .inl i then ((Sum.inl j : Key), v) else (.inl j, z)).1 = .inl (if j = i then (j, u) else (j, w)).1 ∧ r (if j = i then (j, u) else (j, w)).2 (if (Sum.inl j : Key) = .inl i then ((Sum.inl j : Key), v) else (.inl j, z)).2 H
        by_cases hj : j = i
        · subst hj
          rw [if_pos rfl, if_pos rfl]
          exact ⟨rfl, hv⟩
        · rw [if_neg hj, if_neg fun z => hj (Sum.inl.inj z)]
          exact ⟨rfl, q2⟩
    exact go h
  · rw [if_neg hk, if_neg hk]
    exact Paired.app h (.cons ⟨rfl, hv⟩ .nil)
theorem Rm.u {m : Nat} {A : Around} (h : Room m A) : A.units + 1 < cLine := by have := h.units; omega
theorem e_getK {m : Nat} {α : Type} [Ty α] {l : List (Int × α)} {u : α} (hr : Room m X.A) (hu : dget l x = some u) (ha : E X H0 G a (Val (Dic.mk l))) (hb : E X H0 G b (Val x)) (hs : NoSl b := by exact fun _ _ => rfl) : E X H0 G (.Subscript a b pos) (Val u) := fun σ H Q h0 q =>
  pe_out (pe_dget (Rm.u hr) pe_in pe_in hs) (ha σ H _ h0 fun v H1 s1 ⟨m, xs, e1, e2, e3⟩ => hb σ H1 _ (h0.ext s1) fun w H2 s2 p2 => by
    obtain ⟨z, q1, q2⟩ := (KVs.get (l := l) e3).1 u hu
    have p2 : w = .int x := p2
    subst p2
    exact ⟨m, z, e1, .inl ⟨xs, .inl x, .inl (s2 _ _ e2), rfl, q1.symm⟩, q _ H2 (Same.trans s1 s2) (Ty.mono s2 q2)⟩)
theorem e_getO {m : Nat} {α : Type} [Ty α] {l : List (Int × α)} {u : α} (hr : Room m X.A) (hu : dget l x = some u) (ha : E X H0 G a (Old H0 (Dic.mk l))) (hb : E X H0 G b (Val x)) (hs : NoSl b := by exact fun _ _ => rfl) : E X H0 G (.Subscript a b pos) (Old H0 u) := fun σ H Q h0 q =>
  pe_out (pe_dget (Rm.u hr) pe_in pe_in hs) (ha σ H _ h0 fun v H1 s1 ⟨m, xs, e1, e2, e3⟩ => hb σ H1 _ (h0.ext s1) fun w H2 s2 p2 => by
    obtain ⟨z, q1, q2⟩ := (KVs.get (l := l) e3).1 u hu
    have p2 : w = .int x := p2
    subst p2
    exact ⟨m, z, e1, .inl ⟨xs, .inl x, .inl (s2 _ _ (s1 _ _ (h0.same _ _ e2))), rfl, q1.symm⟩, q _ H2 (Same.trans s1 s2) q2⟩)
theorem dgetV {α : Type} [Ty α] {l : List (Int × α)} {kvs : List (Key × V)} {H : Hp} (h : KVs l kvs H) : (valV kvs (.inl x)).isSome = (dget l x).isSome := by
  obtain ⟨g1, g2⟩ := KVs.get (i := x) h
  cases e : dget l x with
  | none => rw [g2 e]; rfl
  | some u => obtain ⟨v, q, _⟩ := g1 u e; rw [q]; rfl
theorem e_inK {m : Nat} {α : Type} [Ty α] {l : List (Int × α)} (hr : Room m X.A) (hb : E X H0 G b (Val x)) (ha : E X H0 G a (Val (Dic.mk l))) (hm : behindInMarks .In a = false := by rfl) : E X H0 G (.Compare b [.In] [a] pos) (Val (dget l x).isSome) := fun σ H Q h0 q =>
  pe_out (pe_cmp (pc_din (Rm.u hr) pe_in pe_in) hm) (hb σ H _ h0 fun w H1 s1 p1 => ha σ H1 _ (h0.ext s1) fun v H2 s2 ⟨m, xs, e1, e2, e3⟩ => by
    have p1 : w = .int x := p1
    subst p1
    exact ⟨m, _, e1, .inl ⟨xs, .inl x, .inl e2, rfl, rfl⟩, q _ H2 (Same.trans s1 s2) (by rw [dgetV (l := l) e3]; rfl)⟩)
theorem et_inK {m : Nat} {α : Type} [Ty α] {l : List (Int × α)} (hr : Room m X.A) (hb : E X H0 G b (Val x)) (ha : E X H0 G a (Val (Dic.mk l))) (hm : behindInMarks .In a = false := by rfl) : ET X H0 G (.Compare b [.In] [a] pos) (dget l x).isSome := fun σ H Q h0 q =>
  pt_out (pt_cmp (pc_din (Rm.u hr) pe_in pe_in) hm) (hb σ H _ h0 fun w H1 s1 p1 => ha σ H1 _ (h0.ext s1) fun v H2 s2 ⟨m, xs, e1, e2, e3⟩ => by
    have p1 : w = .int x := p1
    subst p1
    exact ⟨m, _, e1, .inl ⟨xs, .inl x, .inl e2, rfl, rfl⟩, _, by rw [dgetV (l := l) e3], q H2 (Same.trans s1 s2)⟩)
theorem et_niK {m : Nat} {α : Type} [Ty α] {l : List (Int × α)} (hr : Room m X.A) (hb : E X H0 G b (Val x)) (ha : E X H0 G a (Val (Dic.mk l))) (hm : behindInMarks .NotIn a = false := by rfl) : ET X H0 G (.Compare b [.NotIn] [a] pos) (!(dget l x).isSome) := fun σ H Q h0 q =>
  pt_out (pt_cmp (pc_dnotin (Rm.u hr) pe_in pe_in) hm) (hb σ H _ h0 fun w H1 s1 p1 => ha σ H1 _ (h0.ext s1) fun v H2 s2 ⟨m, xs, e1, e2, e3⟩ => by
    have p1 : w = .int x := p1
    subst p1
    exact ⟨m, _, e1, .inl ⟨xs, .inl x, .inl e2, rfl, rfl⟩, _, by rw [dgetV (l := l) e3], q H2 (Same.trans s1 s2)⟩)
/-- {} -/
theorem e_dic0 {α : Type} [Ty α] : E X H0 G (.Dict [] [] pos) (New (Dic.mk ([] : List (Int × α)))) := fun σ H Q h0 q => pe_out pe_dnewK fun m hm => q _ _ (Same.new hm) ⟨m, [], rfl, cut_new hm upd_same, .nil⟩
theorem e_dit0 : E X H0 G (.Dict [] [] pos) (New (DiT.mk [])) := fun σ H Q h0 q => pe_out pe_dnewT fun m hm => q _ _ (Same.new hm) ⟨m, rfl, cut_new hm upd_same⟩
theorem b_setOwnK (i : Nat) {α : Type} [Im α] {x : List (Int × α)} {n : Str} {p' : Pos} (he : E X H0 G e (New (Dic.mk x))) (hr : B X H0 (G.set i (.ownK x)) rest D) (hN : X.N.Nodup) (hi : X.N[i]? = some n := by rfl) (hx : Loc X.env.scope n := by first | exact Or.inl rfl | exact Or.inr rfl) (hs : swapsWith e (some (.Name n p')) pos.line X.env = pure false := by rfl)
    (hf : X.fn n = true ∨ X.env.scope.names.lookup n = some .local := by first | exact .inl rfl | exact .inr rfl) : B X H0 G (.Assign [.Name n p'] e pos :: rest) D := B.seq fun σ H h0 => ps_out (ps_set hN hi hx pe_in hs hf) (he σ H _ h0 fun v H1 s1 p1 => by
  obtain ⟨p, xs, rfl, e1, e2⟩ := p1
  have np : H p = none := by
    unfold cut at e1
    cases h : H p with
    | none => rfl
    | some u =>
      rw [h] at e1
      cases u <;> cases e1
  exact hr _ H1 (h0.set_own s1 np ⟨p, xs, rfl, Same.free h0.same np, cut_some s1 _ _ e1, e2.mono (cut_some s1)⟩))
theorem b_setOwnT (i : Nat) {x : List ((Int × Int) × Int)} {n : Str} {p' : Pos} (he : E X H0 G e (New (DiT.mk x))) (hr : B X H0 (G.set i (.ownT x)) rest D) (hN : X.N.Nodup) (hi : X.N[i]? = some n := by rfl) (hx : Loc X.env.scope n := by first | exact Or.inl rfl | exact Or.inr rfl) (hs : swapsWith e (some (.Name n p')) pos.line X.env = pure false := by rfl)
    (hf : X.fn n = true ∨ X.env.scope.names.lookup n = some .local := by first | exact .inl rfl | exact .inr rfl) : B X H0 G (.Assign [.Name n p'] e pos :: rest) D := B.seq fun σ H h0 => ps_out (ps_set hN hi hx pe_in hs hf) (he σ H _ h0 fun v H1 s1 p1 => by
  obtain ⟨p, rfl, e1⟩ := p1
  have np : H p = none := by
    unfold cut at e1
    cases h : H p with
    | none => rfl
    | some u =>
      rw [h] at e1
      cases u <;> cases e1
  exact hr _ H1 (h0.set_own s1 np ⟨p, rfl, Same.free h0.same np, cut_some s1 _ _ e1⟩))
/-- d[i] = e -/
theorem b_putK {m : Nat} (hm : Room m X.A) (j : Nat) {α : Type} [Im α] {l : List (Int × α)} {u : α} {n : Str} {i : Expr} (he : E X H0 G e (Val u)) (hi : E X H0 G i (Val x)) (hr : B X H0 (G.set j (.ownK (dput l x u))) rest D) (hl : l.length < 1000000) (hG : G[j]? = some (.ownK l) := by rfl) (hN : X.N[j]? = some n := by rfl) (hv : Vis X.env.scope n := by first | exact Or.inl rfl | exact Or.inr (Or.inl rfl) | exact Or.inr (Or.inr rfl))
    (hd : (n == ("__debug__" : Str)) = false := by decide) (hcd : (n == ("__classdict__" : Str)) = false := by decide) (hs : swapsWith e (some (.Subscript (.Name n p1) i p')) pos.line X.env = pure false := by rfl) : B X H0 G (.Assign [.Subscript (.Name n p1) i p'] e pos :: rest) D := B.seq fun σ H h0 => by
  obtain ⟨v, e1, q, xs, rfl, e3, e4, e5⟩ := h0.get hG (by intro z; cases z)
  refine ps_out (ps_dput (Rm.u hm) (pe_var hN hv hd hcd) pe_in pe_in hs) (he σ H _ h0 fun w H1 s1 p1 => ⟨_, e1, hi σ H1 _ (h0.ext s1) fun z H2 s2 p2 => ?_⟩)
  have p2 : z = .int x := p2
  subst p2
  have s3 := Same.trans s1 s2
  refine ⟨q, _, rfl, .inl ⟨xs, .inl x, s3 _ _ e4, rfl, ?_, rfl⟩, ?_⟩
  · rw [← Paired.length e5]
    have : sizeLine = 16777216 := by decide
    omega
  · refine hr σ _ ((h0.ext s3).put hG trivial e1 trivial ⟨q, _, rfl, e3, upd_same, ?_⟩)
    have kt := kt_dK (o := .dK (putK xs (.inl x) w)) (s3 _ _ e4)
    exact KVs.put (KVs.keep kt (KVs.mono s3 e5)) (Im.keep kt (Ty.mono s2 p1))
/-- d.setdefault(i, e), its value not asked -/
theorem b_setd (j : Nat) {α : Type} [Im α] {l : List (Int × α)} {u : α} {n : Str} {i : Expr} (hi : E X H0 G i (Val x)) (he : E X H0 G e (Val u)) (hr : B X H0 (G.set j (.ownK (if (dget l x).isSome = true then l else dput l x u))) rest D) (hl : l.length < 1000000) (hG : G[j]? = some (.ownK l) := by rfl) (hN : X.N[j]? = some n := by rfl) (hv : Vis X.env.scope n := by first | exact Or.inl rfl | exact Or.inr (Or.inl rfl) | exact Or.inr (Or.inr rfl))
    (hd : (n == ("__debug__" : Str)) = false := by decide) (hcd : (n == ("__classdict__" : Str)) = false := by decide) (hM : M2 X (.Name n p1) "setdefault" p2 i e p' := by exact ⟨rfl, rfl, rfl, rfl⟩)
    (hsw : swapsWith (.Call (.Attribute (.Name n p1) "setdefault" p2) [i, e] [] p') none pos.line X.env = pure false := by rfl) : B X H0 G (.Expr (.Call (.Attribute (.Name n p1) "setdefault" p2) [i, e] [] p') pos :: rest) D := B.seq fun σ H h0 => by
  obtain ⟨v, e1, q, xs, rfl, e3, e4, e5⟩ := h0.get hG (by intro z; cases z)
  refine ps_out (ps_expr (pe_dsetd (pe_var hN hv hd hcd) pe_in pe_in hM) hsw) ⟨_, e1, q, rfl, .inl ⟨xs, .inl e4⟩, hi σ H _ h0 fun z H1 s1 p1 => he σ H1 _ (h0.ext s1) fun w H2 s2 p2 => ?_⟩
  have p1 : z = .int x := p1
  subst p1
  have s3 := Same.trans s1 s2
  obtain ⟨g1, g2⟩ := KVs.get (i := x) e5
  refine ⟨xs, .inl x, s3 _ _ e4, rfl, ?_, fun v' ev => ?_, fun ev => ?_⟩
  · rw [← Paired.length e5]
    have : sizeLine = 16777216 := by decide
    omega
  · have hsm : (dget l x).isSome = true := by
      cases ed : dget l x with
      | none => rw [g2 ed] at ev; cases ev
      | some _ => rfl
    rw [if_pos hsm] at hr
    have hr' := hr
    have eG : G.set j (.ownK l) = G := by
      apply List.ext_getElem?
      intro i'
      rw [List.getElem?_set]
      by_cases hj : j = i'
      · subst hj
        rw [hG, if_pos rfl, if_pos (List.getElem?_eq_some_iff.mp hG).1]
      · rw [if_neg hj]
    rw [eG] at hr'
    exact hr' σ H2 (h0.ext s3)
  · have hnn : ¬ (dget l x).isSome = true := by
      cases ed : dget l x with
      | none => intro z; cases z
      | some u' => obtain ⟨_, q', _⟩ := g1 u' ed; rw [q'] at ev; cases ev
    rw [if_neg hnn] at hr
    refine hr σ _ ((h0.ext s3).put hG trivial e1 trivial ⟨q, _, rfl, e3, upd_same, ?_⟩)
    have kt := kt_dK (o := .dK (putK xs (.inl x) w)) (s3 _ _ e4)
    exact KVs.put (KVs.keep kt (KVs.mono s3 e5)) (Im.keep kt p2)
/-! ### dicts by pairs -/
def tget (l : List ((Int × Int) × Int)) (i j : Int) : Option Int := (l.find? fun e => decide (e.1.1 = i) && decide (e.1.2 = j)).map (·.2)
def tput (l : List ((Int × Int) × Int)) (i j u : Int) : List ((Int × Int) × Int) := if (l.any fun e => decide (e.1.1 = i) && decide (e.1.2 = j)) = true then l.map (fun e => if e.1.1 = i ∧ e.1.2 = j then (e.1, u) else e) else l ++ [((i, j), u)]
theorem key2_dec (i j x y : Int) : decide (([.inl i, .inl j] : List Key) = [.inl x, .inl y]) = (decide (i = x) && decide (j = y)) := by
  by_cases h : i = x
  · subst h
    by_cases h2 : j = y
    · subst h2; simp
    · rw [decide_eq_false h2, decide_eq_false (fun z => h2 (by injection z with _ z; injection z with z; exact Sum.inl.inj z))]; simp
  · rw [decide_eq_false h, decide_eq_false (fun z => h (by injection z with z; exact Sum.inl.inj z))]; simp
theorem tget_val {l : List ((Int × Int) × Int)} : valV (dtV l) [.inl x, .inl y] = (tget l x y).map V.int := by
  induction l with
  | nil => rfl
  | cons e l ih =>
    unfold tget dtV valV at *
    rw [List.map_cons, List.find?_cons, List.find?_cons, key2_dec]
    cases (decide (e.1.1 = x) && decide (e.1.2 = y)) with
    | true => rfl
    | false => exact ih
theorem tput_val {l : List ((Int × Int) × Int)} {u : Int} : putK (dtV l) [.inl x, .inl y] (.int u) = dtV (tput l x y u) := by
  have ha : ((dtV l).any fun kv => decide (kv.1 = [.inl x, .inl y])) = l.any fun e => decide (e.1.1 = x) && decide (e.1.2 = y) := by
    unfold dtV
    rw [List.any_map]
    congr 1
    funext e
    exact key2_dec _ _ _ _
  unfold putK tput
  rw [ha]
  by_cases hk : (l.any fun e => decide (e.1.1 = x) && decide (e.1.2 = y)) = true
  · rw [if_pos hk, if_pos hk]
    unfold dtV
    rw [List.map_map, List.map_map]
    congr 1
    funext e
    show (if ([.inl e.1.1, .inl e.1.2] : List Key) = [.inl x, .inl y] then _ else _) = _
    by_cases h : e.1.1 = x ∧ e.1.2 = y
    · have h' : ([.inl e.1.1, .inl e.1.2] : List Key) = [.inl x, .inl y] := by rw [h.1, h.2]
      rw [if_pos h']
      show _ = (fun e : (Int × Int) × Int => (([.inl e.1.1, .inl e.1.2] : List Key), V.int e.2)) (if e.1.1 = x ∧ e.1.2 = y then (e.1, u) else e)
      rw [if_pos h]
    · have h' : ¬ ([.inl e.1.1, .inl e.1.2] : List Key) = [.inl x, .inl y] := fun z => h (by
        injection z with z1 z2
        injection z2 with z2
        exact ⟨Sum.inl.inj z1, Sum.inl.inj z2⟩)
      rw [if_neg h']
      show _ = (fun e : (Int × Int) × Int => (([.inl e.1.1, .inl e.1.2] : List Key), V.int e.2)) (if e.1.1 = x ∧ e.1.2 = y then (e.1, u) else e)
      rw [if_neg h]
  · rw [if_neg hk, if_neg hk]
    unfold dtV
    rw [List.map_append]
    rfl
theorem e_getT {m : Nat} {l : List ((Int × Int) × Int)} {u : Int} (hr : Room m X.A) (hu : tget l x y = some u) (ha : E X H0 G a (Val (DiT.mk l))) (hb : E X H0 G b (Val (x, y))) (hs : NoSl b := by exact fun _ _ => rfl) : E X H0 G (.Subscript a b pos) (Val u) := fun σ H Q h0 q =>
  pe_out (pe_dget (Rm.u hr) pe_in pe_in hs) (ha σ H _ h0 fun v H1 s1 ⟨m, e1, e2⟩ => hb σ H1 _ (h0.ext s1) fun w H2 s2 ⟨q1, v1, v2, q2, q3, q4, q5⟩ => by
    have q4 : v1 = .int x := q4
    have q5 : v2 = .int y := q5
    subst q4 q5
    exact ⟨m, .int u, e1, .inr ⟨_, [.inl x, .inl y], q1, .inl (s2 _ _ e2), q2, q3, by rw [tget_val, hu]; rfl⟩, q _ H2 (Same.trans s1 s2) rfl⟩)
theorem b_putT {m : Nat} (hm : Room m X.A) (j : Nat) {l : List ((Int × Int) × Int)} {u : Int} {n : Str} {i : Expr} (he : E X H0 G e (Val u)) (hi : E X H0 G i (Val (x, y))) (hr : B X H0 (G.set j (.ownT (tput l x y u))) rest D) (hl : l.length < 1000000) (hG : G[j]? = some (.ownT l) := by rfl) (hN : X.N[j]? = some n := by rfl) (hv : Vis X.env.scope n := by first | exact Or.inl rfl | exact Or.inr (Or.inl rfl) | exact Or.inr (Or.inr rfl))
    (hd : (n == ("__debug__" : Str)) = false := by decide) (hcd : (n == ("__classdict__" : Str)) = false := by decide) (hs : swapsWith e (some (.Subscript (.Name n p1) i p')) pos.line X.env = pure false := by rfl) : B X H0 G (.Assign [.Subscript (.Name n p1) i p'] e pos :: rest) D := B.seq fun σ H h0 => by
  obtain ⟨v, e1, q, rfl, e3, e4⟩ := h0.get hG (by intro z; cases z)
  refine ps_out (ps_dput (Rm.u hm) (pe_var hN hv hd hcd) pe_in pe_in hs) (he σ H _ h0 fun w H1 s1 p1 => ⟨_, e1, hi σ H1 _ (h0.ext s1) fun z H2 s2 ⟨q1, v1, v2, q2, q3, q4, q5⟩ => ?_⟩)
  have q4 : v1 = .int x := q4
  have q5 : v2 = .int y := q5
  have p1 : w = .int u := p1
  subst q4 q5 p1
  have s3 := Same.trans s1 s2
  refine ⟨q, _, rfl, .inr ⟨_, [.inl x, .inl y], q1, s3 _ _ e4, q2, q3, ?_, rfl⟩, ?_⟩
  · unfold dtV
    rw [List.length_map]
    have : sizeLine = 16777216 := by decide
    omega
  · exact hr σ _ ((h0.ext s3).put hG trivial e1 trivial ⟨q, rfl, e3, by rw [upd_same, tput_val]⟩)
/-! ### loops by a state -/
theorem b_forF {iter : Expr} {γ S : Type} [Im γ] {l : List γ} {js : List Nat} {up : γ → List Slot → List Slot} (Gf : S → List Slot) (f : S → γ → S) (s0 : S) (hi : EI X H0 G tg iter l) (ht : Tgt X tg js up) (h0 : Sub G (Gf s0))
    (hs : ∀ H0', Same H0 H0' → ∀ i x s, l[i]? = some x → s = (l.take i).foldl f s0 → B X H0' (up x (Gf s)) body { D with nx := AtU H0' (Gf (f s x)), ct := AtU H0' (Gf (f s x)), bk := fun σ H => tB X rest D σ H })
    (hd : ∀ H0', Same H0 H0' → B X H0' (Gf (l.foldl f s0)) rest D) (hp : PassesOwn (model X.prog X.w) X.A X.env X.xe) (hc : X.calm = true := by rfl) (hf : ∀ x, foldedSetIterable iter X.env x = pure x := by intro _; rfl) : B X H0 G (.For tg iter body [] pos :: rest) D :=
  b_for hi ht (fun i => Gf ((l.take i).foldl f s0)) (fun H0' σ H a => a.sub h0) (fun H0' s0' i x e => by
    have := hs H0' s0' i x _ e rfl
    have tk : l.take (i + 1) = l.take i ++ [x] := by rw [List.take_succ, e]; rfl
    have ef : (l.take (i + 1)).foldl f s0 = f ((l.take i).foldl f s0) x := by rw [tk, List.foldl_append]; rfl
    show B X H0' (up x (Gf ((l.take i).foldl f s0))) body { D with nx := AtU H0' (Gf ((l.take (i + 1)).foldl f s0)), ct := AtU H0' (Gf ((l.take (i + 1)).foldl f s0)), bk := fun σ H => tB X rest D σ H }
    rw [ef]
    exact this) (fun H0' s0' => by rw [List.take_length]; exact hd H0' s0') hp hc hf
def wlOk {S : Type} (c : S → Bool) (f : S → S) (ok : S → Bool) : Nat → S → Bool
  | 0, s => ok s && !c s
  | n + 1, s => ok s && (!c s || wlOk c f ok n (f s))
theorem wlOk_fin {S : Type} {c : S → Bool} {f : S → S} {ok : S → Bool} : ∀ {n : Nat} {s : S}, wlOk c f ok n s = true → c (wl c f n s) = false
  | 0, s, h => by
    have h : (ok s && !c s) = true := h
    show c s = false
    revert h
    cases ok s <;> cases c s <;> decide
  | n + 1, s, h => by
    have h : (ok s && (!c s || wlOk c f ok n (f s))) = true := h
    show c (if c s = true then wl c f n (f s) else s) = false
    cases hc : c s with
    | false => rw [if_neg (by decide)]; exact hc
    | true =>
      rw [if_pos rfl]
      refine wlOk_fin (ok := ok) ?_
      rw [hc] at h
      revert h
      cases ok s <;> simp
/-- while, checked -/
theorem b_whileC {S : Type} (cS : S → Bool) (fS : S → S) (ok : S → Bool) (Gf : S → List Slot) (n : Nat) (s0 : S) (hok : wlOk cS fS ok n s0 = true) (h0 : Sub G (Gf s0))
    (hc : ∀ H0', Same H0 H0' → ∀ s, ok s = true → ET X H0' (Gf s) c (cS s)) (hs : ∀ H0', Same H0 H0' → ∀ s, ok s = true → cS s = true → B X H0' (Gf s) body { D with nx := AtU H0' (Gf (fS s)), ct := AtU H0' (Gf (fS s)), bk := fun σ H => tB X rest D σ H })
    (hd : ∀ H0', Same H0 H0' → B X H0' (Gf (wl cS fS n s0)) rest D) (hp : PassesOwn (model X.prog X.w) X.A X.env X.xe) : B X H0 G (.While c body [] pos :: rest) D :=
  b_while cS fS Gf (fun s => ∃ m, wlOk cS fS ok m s = true) n s0 (fun σ H a => a.sub h0) ⟨n, hok⟩ (wlOk_fin hok) (fun H0' sb s ⟨m, hm⟩ => hc H0' sb s (by
    cases m with
    | zero =>
      have hm : (ok s && !cS s) = true := hm
      revert hm
      cases ok s <;> simp
    | succ m =>
      have hm : (ok s && (!cS s || wlOk cS fS ok m (fS s))) = true := hm
      revert hm
      cases ok s <;> simp)) (fun H0' sb s ⟨m, hm⟩ hcs => by
    cases m with
    | zero =>
      have hm : (ok s && !cS s) = true := hm
      rw [hcs] at hm
      revert hm
      cases ok s <;> simp
    | succ m =>
      have hm : (ok s && (!cS s || wlOk cS fS ok m (fS s))) = true := hm
      rw [hcs] at hm
      have h1 : ok s = true := by revert hm; cases ok s <;> simp
      have h2 : wlOk cS fS ok m (fS s) = true := by revert hm; cases ok s <;> simp
      exact ⟨⟨m, h2⟩, hs H0' sb s h1 hcs⟩) (fun H0' sb _ => hd H0' sb) hp
end
end Lk

/-! LkP -/
set_option Elab.async false
set_option linter.all false
set_option maxRecDepth 100000
set_option maxHeartbeats 4000000
set_option autoImplicit false
/-! The layer: several names set at once, slices, zip, sets, dict comprehensions. -/
namespace Lk
open PySem PySem.Spec PyProof.Rows L2
open Ty (r)
section
variable {X : Cx} {H0 He : Hp} {G : List Slot} {e a b c d tg : Expr} {es : List Expr} {pos p p1 p2 p' : Pos} {ρ : Res} {R : Ars} {D : Ends} {st : Stmt} {rest body els : List Stmt} {k : Bool} {x y : Int}
/-! ### a, b = u, v -/
theorem tA_mono {σ : L2.St} {H : Hp} {Q Q' : List V → Hp → Prop} (h : tA X es σ H Q) (q : ∀ vs H', Q vs H' → Q' vs H') : tA X es σ H Q' := fun pos pins s I => thn (h pos pins s I) fun us s1 ⟨vs, H1, I1, r1, q1⟩ => ⟨vs, H1, I1, r1, q vs H1 q1⟩
structure Par2 (X : Cx) (st : Stmt) (a b : Expr) (i j : Nat) : Prop where
  go : ∀ D σ H, tA X [a, b] σ H (fun vs H1 => ∃ v w, vs = [v, w] ∧ ∀ H2, Same H1 H2 → D.nx ((σ.set i (some v)).set j (some w)) H2) → tS X st D σ H
structure Par3 (X : Cx) (st : Stmt) (a b c : Expr) (i j l : Nat) : Prop where
  go : ∀ D σ H, tA X [a, b, c] σ H (fun vs H1 => ∃ u v w, vs = [u, v, w] ∧ ∀ H2, Same H1 H2 → D.nx (((σ.set i (some u)).set j (some v)).set l (some w)) H2) → tS X st D σ H
structure Par4 (X : Cx) (st : Stmt) (a b c d : Expr) (i j l m : Nat) : Prop where
  go : ∀ D σ H, tA X [a, b, c, d] σ H (fun vs H1 => ∃ u v w z, vs = [u, v, w, z] ∧ ∀ H2, Same H1 H2 → D.nx ((((σ.set i (some u)).set j (some v)).set l (some w)).set m (some z)) H2) → tS X st D σ H
theorem par_l (i j : Nat) {n m : Str} {px py pt : Pos} {kt k2 pt2} (hc : X.calm = true) (hN : X.N.Nodup) (hi : X.N[i]? = some n := by rfl) (hj : X.N[j]? = some m := by rfl) (hij : i ≠ j := by decide) (hx : X.env.scope.names.lookup n = some .local := by rfl) (hy : X.env.scope.names.lookup m = some .local := by rfl)
    (hw : swappedStores [.Tuple [.Name n px, .Name m py] kt pt] (.Tuple [a, b] k2 pt2) X.env = pure (some [n, m]) := by rfl) (hs : swapsWithSole [.Tuple [.Name n px, .Name m py] kt pt] (.Tuple [a, b] k2 pt2) pos.line X.env = pure false := by rfl) :
    Par2 X (.Assign [.Tuple [.Name n px, .Name m py] kt pt] (.Tuple [a, b] k2 pt2) pos) a b i j := ⟨fun D σ H h => ps_out (ps_par hc hN hi hj hij hx hy pa_in hw hs) (tA_mono h fun vs H1 ⟨v, w, e, q⟩ => ⟨v, w, e, q H1 (Same.refl H1)⟩)⟩
theorem par_c (i j : Nat) {n m : Str} {px py pt : Pos} {kt k2 pt2} (hc : X.calm = true) (hN : X.N.Nodup) (hi : X.N[i]? = some n := by rfl) (hj : X.N[j]? = some m := by rfl) (hx : Loc X.env.scope n := by first | exact Or.inl rfl | exact Or.inr rfl) (hy : Loc X.env.scope m := by first | exact Or.inl rfl | exact Or.inr rfl)
    (hf : X.fn n = true ∨ X.env.scope.names.lookup n = some .local := by first | exact .inl rfl | exact .inr rfl) (hg : X.fn m = true ∨ X.env.scope.names.lookup m = some .local := by first | exact .inl rfl | exact .inr rfl)
    (hw : swappedStores [.Tuple [.Name n px, .Name m py] kt pt] (.Tuple [a, b] k2 pt2) X.env = pure none := by rfl) (hs : swapsWithSole [.Tuple [.Name n px, .Name m py] kt pt] (.Tuple [a, b] k2 pt2) pos.line X.env = pure false := by rfl) :
    Par2 X (.Assign [.Tuple [.Name n px, .Name m py] kt pt] (.Tuple [a, b] k2 pt2) pos) a b i j := ⟨fun D σ H h => ps_out (ps_asg (pe_tup pa_in) (pg_tup hc (pgs_cons (pg_name hN hi hx hf) (pgs_cons (pg_name hN hj hy hg) pgs_nil))) hs hw)
      (tA_mono h fun vs H1 ⟨v, w, e, q⟩ => ⟨by rw [e]; exact szl (by show (2 : Nat) < 1000000; decide), fun m hm => ⟨m, vs, rfl, .inl (.inl upd_same), by rw [e]; rfl, v, [w], e, w, [], rfl, rfl, q _ (Same.new hm)⟩⟩)⟩
theorem par3_l (i j l : Nat) {n m o : Str} {px py pz pt : Pos} {kt k2 pt2} (hc : X.calm = true) (hN : X.N.Nodup) (hi : X.N[i]? = some n := by rfl) (hj : X.N[j]? = some m := by rfl) (hl : X.N[l]? = some o := by rfl) (hij : i ≠ j := by decide) (hil : i ≠ l := by decide) (hjl : j ≠ l := by decide) (hx : X.env.scope.names.lookup n = some .local := by rfl) (hy : X.env.scope.names.lookup m = some .local := by rfl) (hz : X.env.scope.names.lookup o = some .local := by rfl)
    (hw : swappedStores [.Tuple [.Name n px, .Name m py, .Name o pz] kt pt] (.Tuple [a, b, c] k2 pt2) X.env = pure (some [n, m, o]) := by rfl) (hs : swapsWithSole [.Tuple [.Name n px, .Name m py, .Name o pz] kt pt] (.Tuple [a, b, c] k2 pt2) pos.line X.env = pure false := by rfl) :
    Par3 X (.Assign [.Tuple [.Name n px, .Name m py, .Name o pz] kt pt] (.Tuple [a, b, c] k2 pt2) pos) a b c i j l := ⟨fun D σ H h => ps_out (ps_par3 hc hN hi hj hl hij hil hjl hx hy hz pa_in hw hs) (tA_mono h fun vs H1 ⟨u, v, w, e, q⟩ => ⟨u, v, w, e, q H1 (Same.refl H1)⟩)⟩
theorem par4 (i j l o : Nat) {n m n1 n2 : Str} {px py pz pw pt : Pos} {kt k2 pt2} (hc : X.calm = true) (hN : X.N.Nodup) (hi : X.N[i]? = some n := by rfl) (hj : X.N[j]? = some m := by rfl) (hl : X.N[l]? = some n1 := by rfl) (ho : X.N[o]? = some n2 := by rfl) (hx : Loc X.env.scope n := by first | exact Or.inl rfl | exact Or.inr rfl) (hy : Loc X.env.scope m := by first | exact Or.inl rfl | exact Or.inr rfl) (hz : Loc X.env.scope n1 := by first | exact Or.inl rfl | exact Or.inr rfl) (hu : Loc X.env.scope n2 := by first | exact Or.inl rfl | exact Or.inr rfl)
    (hf : X.fn n = true ∨ X.env.scope.names.lookup n = some .local := by first | exact .inl rfl | exact .inr rfl) (hg : X.fn m = true ∨ X.env.scope.names.lookup m = some .local := by first | exact .inl rfl | exact .inr rfl) (hg1 : X.fn n1 = true ∨ X.env.scope.names.lookup n1 = some .local := by first | exact .inl rfl | exact .inr rfl) (hg2 : X.fn n2 = true ∨ X.env.scope.names.lookup n2 = some .local := by first | exact .inl rfl | exact .inr rfl)
    (hw : swappedStores [.Tuple [.Name n px, .Name m py, .Name n1 pz, .Name n2 pw] kt pt] (.Tuple [a, b, c, d] k2 pt2) X.env = pure none := by rfl) (hs : swapsWithSole [.Tuple [.Name n px, .Name m py, .Name n1 pz, .Name n2 pw] kt pt] (.Tuple [a, b, c, d] k2 pt2) pos.line X.env = pure false := by rfl) :
    Par4 X (.Assign [.Tuple [.Name n px, .Name m py, .Name n1 pz, .Name n2 pw] kt pt] (.Tuple [a, b, c, d] k2 pt2) pos) a b c d i j l o := ⟨fun D σ H h => ps_out (ps_asg (pe_tup pa_in) (pg_tup hc (pgs_cons (pg_name hN hi hx hf) (pgs_cons (pg_name hN hj hy hg) (pgs_cons (pg_name hN hl hz hg1) (pgs_cons (pg_name hN ho hu hg2) pgs_nil))))) hs hw)
      (tA_mono h fun vs H1 ⟨u, v, w, z, e, q⟩ => ⟨by rw [e]; exact szl (by show (4 : Nat) < 1000000; decide), fun m hm => ⟨m, vs, rfl, .inl (.inl upd_same), by rw [e]; rfl, u, [v, w, z], e, v, [w, z], rfl, w, [z], rfl, z, [], rfl, rfl, q _ (Same.new hm)⟩⟩)⟩
/-- how a value becomes what a slot holds, by what is behind H -/
def Fit (ρ : Res) (s : Slot) : Prop := ∀ H0 H v H1, Same H0 H → Same H H1 → ρ.p H v H1 → s.ok H0 v H1
theorem fit_im {α : Type} [Im α] {u : α} : Fit (Val u) (.im u) := fun _ _ _ _ _ _ h => h
theorem new_free {H H1 : Hp} {p : Addr} {o : HO} (e : cut H H1 p = some o) (nt : ∀ xs, o ≠ .tup xs) : H p = none := by
  unfold cut at e
  cases h : H p with
  | none => rfl
  | some u =>
    rw [h] at e
    cases u <;> first
      | (cases e; done)
      | (cases e; exact absurd rfl (nt _))
theorem put2 {H0 H H1 : Hp} {G : List Slot} {σ : L2.St} {i j : Nat} {α β : Type} [Im α] [Im β] {u : α} {w : β} {v1 v2 : V} (h : At H0 G σ H) (s : Same H H1) (h1 : r u v1 H1) (h2 : r w v2 H1) : At H0 ((G.set i (.im u)).set j (.im w)) ((σ.set i (some v1)).set j (some v2)) H1 :=
  ((h.ext s).set (s := .im u) h1 fun z => z).set (s := .im w) h2 fun z => z
/-- x, y = u, v: plain things -/
theorem b_par {i j : Nat} {α β : Type} [Im α] [Im β] {u : α} {w : β} (P : Par2 X st a b i j) (ha : E X H0 G a (Val u)) (hb : E X H0 G b (Val w)) (hr : B X H0 ((G.set i (.im u)).set j (.im w)) rest D)
    (hs : starEach [a, b] X.env = (false, eval a X.env) :: starEach [b] X.env := by rfl) (hs2 : starEach [b] X.env = (false, eval b X.env) :: starEach [] X.env := by rfl) : B X H0 G (st :: rest) D := B.seq fun σ H h0 =>
  P.go _ σ H (pa_out (pa_cons pe_in (pa_cons pe_in pa_nil hs2) hs) (ha σ H _ h0 fun v H1 s1 p1 => hb σ H1 _ (h0.ext s1) fun z H2 s2 p2 => ⟨v, z, rfl, fun H3 s3 =>
    hr _ H3 (put2 h0 (Same.trans (Same.trans s1 s2) s3) (Ty.mono (Same.trans s2 s3) p1) (Ty.mono s3 p2))⟩))
/-- x, y = a new list, a plain thing -/
theorem b_parOI {i j : Nat} {α β : Type} [Im α] [Im β] {u : List α} {w : β} (P : Par2 X st a b i j) (ha : E X H0 G a (New (Lst.mk u))) (hb : E X H0 G b (Val w)) (hr : B X H0 ((G.set i (.own u)).set j (.im w)) rest D)
    (hs : starEach [a, b] X.env = (false, eval a X.env) :: starEach [b] X.env := by rfl) (hs2 : starEach [b] X.env = (false, eval b X.env) :: starEach [] X.env := by rfl) : B X H0 G (st :: rest) D := B.seq fun σ H h0 =>
  P.go _ σ H (pa_out (pa_cons pe_in (pa_cons pe_in pa_nil hs2) hs) (ha σ H _ h0 fun v H1 s1 ⟨q, xs, ev, e1, e2⟩ => hb σ H1 _ (h0.ext s1) fun z H2 s2 p2 => ⟨v, z, rfl, fun H3 s3 => by
    have nq : H q = none := new_free e1 fun _ z => nomatch z
    have s13 := Same.trans s1 (Same.trans s2 s3)
    subst ev
    have a1 := h0.set_own (j := i) (s := .own u) s13 nq ⟨q, xs, rfl, Same.free h0.same nq, Same.trans s2 s3 _ _ (cut_some s1 _ _ e1), A2.mono (l := u) (Same.trans (cut_some s1) (Same.trans s2 s3)) e2⟩
    exact hr _ H3 (a1.set (s := .im w) (Ty.mono s3 p2) fun z => z)⟩))
theorem b_parIO {i j : Nat} {α β : Type} [Im α] [Im β] {u : α} {w : List β} (P : Par2 X st a b i j) (ha : E X H0 G a (Val u)) (hb : E X H0 G b (New (Lst.mk w))) (hr : B X H0 ((G.set i (.im u)).set j (.own w)) rest D)
    (hs : starEach [a, b] X.env = (false, eval a X.env) :: starEach [b] X.env := by rfl) (hs2 : starEach [b] X.env = (false, eval b X.env) :: starEach [] X.env := by rfl) : B X H0 G (st :: rest) D := B.seq fun σ H h0 =>
  P.go _ σ H (pa_out (pa_cons pe_in (pa_cons pe_in pa_nil hs2) hs) (ha σ H _ h0 fun v H1 s1 p1 => hb σ H1 _ (h0.ext s1) fun z H2 s2 ⟨q, xs, ev, e1, e2⟩ => ⟨v, z, rfl, fun H3 s3 => by
    have nq : H1 q = none := new_free e1 fun _ z => nomatch z
    subst ev
    have a1 := (h0.ext s1).set (j := i) (s := .im u) p1 fun z => z
    have a2 := a1.set_own (j := j) (s := .own w) (Same.trans s2 s3) nq ⟨q, xs, rfl, Same.free a1.same nq, s3 _ _ (cut_some s2 _ _ e1), A2.mono (l := w) (Same.trans (cut_some s2) s3) e2⟩
    exact hr _ H3 a2⟩))
theorem b_parOO {i j : Nat} {α β : Type} [Im α] [Im β] {u : List α} {w : List β} (P : Par2 X st a b i j) (ha : E X H0 G a (New (Lst.mk u))) (hb : E X H0 G b (New (Lst.mk w))) (hr : B X H0 ((G.set i (.own u)).set j (.own w)) rest D)
    (hs : starEach [a, b] X.env = (false, eval a X.env) :: starEach [b] X.env := by rfl) (hs2 : starEach [b] X.env = (false, eval b X.env) :: starEach [] X.env := by rfl) : B X H0 G (st :: rest) D := B.seq fun σ H h0 =>
  P.go _ σ H (pa_out (pa_cons pe_in (pa_cons pe_in pa_nil hs2) hs) (ha σ H _ h0 fun v H1 s1 ⟨q, xs, ev, e1, e2⟩ => hb σ H1 _ (h0.ext s1) fun z H2 s2 ⟨q', xs', ev', e1', e2'⟩ => ⟨v, z, rfl, fun H3 s3 => by
    have nq : H q = none := new_free e1 fun _ z => nomatch z
    have nq' : H1 q' = none := new_free e1' fun _ z => nomatch z
    subst ev ev'
    have a1 := h0.set_own (j := i) (s := .own u) s1 nq ⟨q, xs, rfl, Same.free h0.same nq, cut_some s1 _ _ e1, A2.mono (l := u) (cut_some s1) e2⟩
    have a2 := a1.set_own (j := j) (s := .own w) (Same.trans s2 s3) nq' ⟨q', xs', rfl, Same.free a1.same nq', s3 _ _ (cut_some s2 _ _ e1'), A2.mono (l := w) (Same.trans (cut_some s2) s3) e2'⟩
    exact hr _ H3 a2⟩))
/-- x, y = a new thing that stays as it is, a new list -/
theorem b_parSO {i j : Nat} {α β : Type} [Ty α] [Im β] {u : α} {w : List β} (P : Par2 X st a b i j) (ha : E X H0 G a (New u)) (hb : ∀ H0', Same H0 H0' → E X H0' G b (New (Lst.mk w))) (hr : ∀ H0', Same H0 H0' → B X H0' ((G.set i (.old u)).set j (.own w)) rest D)
    (hs : starEach [a, b] X.env = (false, eval a X.env) :: starEach [b] X.env := by rfl) (hs2 : starEach [b] X.env = (false, eval b X.env) :: starEach [] X.env := by rfl) : B X H0 G (st :: rest) D := B.seq fun σ H h0 =>
  P.go _ σ H (pa_out (pa_cons pe_in (pa_cons pe_in pa_nil hs2) hs) (ha σ H _ h0 fun v H1 s1 p1 => hb _ reb_old σ H1 _ (h0.reb s1) fun z H2 s2 ⟨q', xs', ev', e1', e2'⟩ => ⟨v, z, rfl, fun H3 s3 => by
    have nq' : H1 q' = none := new_free e1' fun _ z => nomatch z
    subst ev'
    have a1 := (h0.reb s1).set (j := i) (s := .old u) (Ty.mono (reb_cut h0.same) p1) fun z => z
    have a2 := a1.set_own (j := j) (s := .own w) (Same.trans s2 s3) nq' ⟨q', xs', rfl, Same.free a1.same nq', s3 _ _ (cut_some s2 _ _ e1'), A2.mono (l := w) (Same.trans (cut_some s2) s3) e2'⟩
    exact hr _ reb_old _ H3 a2⟩))
/-- x, y, z = a new list, two plain things -/
theorem b_par3 {i j l : Nat} {α β γ : Type} [Im α] [Im β] [Im γ] {u : List α} {w : β} {t : γ} (P : Par3 X st a b c i j l) (ha : E X H0 G a (New (Lst.mk u))) (hb : E X H0 G b (Val w)) (hc : E X H0 G c (Val t)) (hr : B X H0 (((G.set i (.own u)).set j (.im w)).set l (.im t)) rest D)
    (hs : starEach [a, b, c] X.env = (false, eval a X.env) :: starEach [b, c] X.env := by rfl) (hs2 : starEach [b, c] X.env = (false, eval b X.env) :: starEach [c] X.env := by rfl) (hs3 : starEach [c] X.env = (false, eval c X.env) :: starEach [] X.env := by rfl) : B X H0 G (st :: rest) D := B.seq fun σ H h0 =>
  P.go _ σ H (pa_out (pa_cons pe_in (pa_cons pe_in (pa_cons pe_in pa_nil hs3) hs2) hs) (ha σ H _ h0 fun v H1 s1 ⟨q, xs, ev, e1, e2⟩ => hb σ H1 _ (h0.ext s1) fun z H2 s2 p2 => hc σ H2 _ ((h0.ext s1).ext s2) fun z' H3 s3 p3 => ⟨v, z, z', rfl, fun H4 s4 => by
    have nq : H q = none := new_free e1 fun _ z => nomatch z
    have s14 := Same.trans s1 (Same.trans s2 (Same.trans s3 s4))
    subst ev
    have a1 := h0.set_own (j := i) (s := .own u) s14 nq ⟨q, xs, rfl, Same.free h0.same nq, s14' s2 s3 s4 (cut_some s1 _ _ e1), A2.mono (l := u) (Same.trans (cut_some s1) (Same.trans s2 (Same.trans s3 s4))) e2⟩
    exact hr _ H4 ((a1.set (s := .im w) (Ty.mono (Same.trans s3 s4) p2) fun z => z).set (s := .im t) (Ty.mono s4 p3) fun z => z)⟩))
where
  s14' {H1 H2 H3 H4 : Hp} {q : Addr} {o : HO} (s2 : Same H1 H2) (s3 : Same H2 H3) (s4 : Same H3 H4) (e : H1 q = some o) : H4 q = some o := s4 _ _ (s3 _ _ (s2 _ _ e))
theorem b_par4 {i j l m : Nat} {α β γ δ : Type} [Im α] [Im β] [Im γ] [Im δ] {u : α} {w : β} {t : γ} {z : δ} (P : Par4 X st a b c d i j l m) (ha : E X H0 G a (Val u)) (hb : E X H0 G b (Val w)) (hc : E X H0 G c (Val t)) (hd : E X H0 G d (Val z)) (hr : B X H0 ((((G.set i (.im u)).set j (.im w)).set l (.im t)).set m (.im z)) rest D)
    (hs : starEach [a, b, c, d] X.env = (false, eval a X.env) :: starEach [b, c, d] X.env := by rfl) (hs2 : starEach [b, c, d] X.env = (false, eval b X.env) :: starEach [c, d] X.env := by rfl) (hs3 : starEach [c, d] X.env = (false, eval c X.env) :: starEach [d] X.env := by rfl) (hs4 : starEach [d] X.env = (false, eval d X.env) :: starEach [] X.env := by rfl) : B X H0 G (st :: rest) D := B.seq fun σ H h0 =>
  P.go _ σ H (pa_out (pa_cons pe_in (pa_cons pe_in (pa_cons pe_in (pa_cons pe_in pa_nil hs4) hs3) hs2) hs) (ha σ H _ h0 fun v1 H1 s1 q1 => hb σ H1 _ (h0.ext s1) fun v2 H2 s2 q2 => hc σ H2 _ ((h0.ext s1).ext s2) fun v3 H3 s3 q3 => hd σ H3 _ (((h0.ext s1).ext s2).ext s3) fun v4 H4 s4 q4 => ⟨v1, v2, v3, v4, rfl, fun H5 s5 => by
    have a0 := h0.ext (Same.trans s1 (Same.trans s2 (Same.trans s3 (Same.trans s4 s5))))
    exact hr _ H5 ((((a0.set (s := .im u) (Ty.mono (Same.trans s2 (Same.trans s3 (Same.trans s4 s5))) q1) fun z => z).set (s := .im w) (Ty.mono (Same.trans s3 (Same.trans s4 s5)) q2) fun z => z).set (s := .im t) (Ty.mono (Same.trans s4 s5) q3) fun z => z).set (s := .im z) (Ty.mono s5 q4) fun z => z)⟩))
/-- x, y = a pair -/
theorem b_setPair {i j : Nat} {α β : Type} [Im α] [Im β] {u : α × β} {n m : Str} {px py pt : Pos} {kt : Nat} (he : E X H0 G e (Val u)) (hr : B X H0 ((G.set i (.im u.1)).set j (.im u.2)) rest D) (hc : X.calm = true) (hN : X.N.Nodup) (hi : X.N[i]? = some n := by rfl) (hj : X.N[j]? = some m := by rfl) (hx : Loc X.env.scope n := by first | exact Or.inl rfl | exact Or.inr rfl) (hy : Loc X.env.scope m := by first | exact Or.inl rfl | exact Or.inr rfl)
    (hf : X.fn n = true ∨ X.env.scope.names.lookup n = some .local := by first | exact .inl rfl | exact .inr rfl) (hg : X.fn m = true ∨ X.env.scope.names.lookup m = some .local := by first | exact .inl rfl | exact .inr rfl)
    (hw : swappedStores [.Tuple [.Name n px, .Name m py] kt pt] e X.env = pure none := by rfl) (hs : swapsWithSole [.Tuple [.Name n px, .Name m py] kt pt] e pos.line X.env = pure false := by rfl) : B X H0 G (.Assign [.Tuple [.Name n px, .Name m py] kt pt] e pos :: rest) D := B.seq fun σ H h0 =>
  ps_out (ps_asg pe_in (pg_tup hc (pgs_cons (pg_name hN hi hx hf) (pgs_cons (pg_name hN hj hy hg) pgs_nil))) hs hw) (he σ H _ h0 fun v H1 s1 ⟨q, v1, v2, e1, e2, e3, e4⟩ => ⟨q, [v1, v2], e1, .inl (.inl e2), rfl, v1, [v2], rfl, v2, [], rfl, rfl, hr _ H1 (put2 h0 s1 e3 e4)⟩)
/-! ### slices -/
def cutL {α : Type} (l : List α) (lo hi : Option Int) : List α := (l.drop (HT.sIx l.length 0 lo)).take (HT.sIx l.length l.length hi - HT.sIx l.length 0 lo)
theorem Paired.drop {α β : Type} {F : α → β → Prop} : ∀ {l : List α} {m : List β} (n : Nat), Paired F l m → Paired F (l.drop n) (m.drop n)
  | _, _, 0, h => h
  | _, _, _ + 1, .nil => .nil
  | _, _, n + 1, .cons _ t => Paired.drop n t
theorem Paired.take {α β : Type} {F : α → β → Prop} : ∀ {l : List α} {m : List β} (n : Nat), Paired F l m → Paired F (l.take n) (m.take n)
  | _, _, 0, _ => .nil
  | _, _, _ + 1, .nil => .nil
  | _, _, n + 1, .cons f t => .cons f (Paired.take n t)
theorem A2.cut {α : Type} [Ty α] {l : List α} {xs : List V} {H : Hp} {lo hi : Option Int} (h : A2 l xs H) : A2 (cutL l lo hi) (cutV xs lo hi) H := by
  unfold cutL cutV
  rw [h.len]
  exact Paired.take _ (Paired.drop _ h)
/-- a bound of a slice -/
def EO (X : Cx) (H0 : Hp) (G : List Slot) (e : Option Expr) (o : Option Int) : Prop := ∃ t, PO X e t ∧ ∀ σ H (Q : Option Int → Hp → Prop), At H0 G σ H → (∀ H', Same H H' → Q o H') → t σ H Q
theorem eo_none : EO X H0 G none none := ⟨_, po_none, fun σ H Q _ q => q H (Same.refl H)⟩
theorem eo_some (h : E X H0 G e (Val x)) : EO X H0 G (some e) (some x) := ⟨_, po_some pe_in, fun σ H Q h0 q => h σ H _ h0 fun v H1 s1 p1 => ⟨x, p1, q H1 s1⟩⟩
theorem e_sliceT {α : Type} [Im α] {l : List α} {lo hi : Option Expr} {o u : Option Int} (ha : E X H0 G a (Val l)) (hl : EO X H0 G lo o) (hu : EO X H0 G hi u) : E X H0 G (.Subscript a (.Slice lo hi none p2) pos) (Val (cutL l o u)) := fun σ H Q h0 q => by
  obtain ⟨t1, P1, k1⟩ := hl
  obtain ⟨t2, P2, k2⟩ := hu
  refine pe_out (pe_slice sl_tupA pe_in P1 P2) (ha σ H _ h0 fun v H1 s1 ⟨m, xs, e1, e2, e3⟩ => k1 σ H1 _ (h0.ext s1) fun H2 s2 => k2 σ H2 _ ((h0.ext s1).ext s2) fun H3 s3 => ?_)
  have s13 := Same.trans s2 s3
  refine ⟨m, xs, e1, .inl (.inl (s13 _ _ e2)), fun hx => ?_, fun hx n hn => ?_⟩
  · subst e1
    refine q _ H3 (Same.trans s1 s13) ⟨m, xs, rfl, s13 _ _ e2, ?_⟩
    have : cutL l o u = l := by
      unfold cutL
      have hl := e3.len
      rw [hl, hx.1, hx.2, List.drop_zero, ← hl, Nat.sub_zero, List.take_length]
    rw [this]
    exact e3.mono s13
  · exact q _ _ (Same.trans (Same.trans s1 s13) (Same.new hn)) ⟨n, _, rfl, upd_same, A2.mono (Same.new hn) (A2.mono s13 (A2.cut e3))⟩
theorem e_sliceL {α : Type} [Im α] {l : List α} {lo hi : Option Expr} {o u : Option Int} (ha : E X H0 G a (Val (Lst.mk l))) (hl : EO X H0 G lo o) (hu : EO X H0 G hi u) : E X H0 G (.Subscript a (.Slice lo hi none p2) pos) (New (Lst.mk (cutL l o u))) := fun σ H Q h0 q => by
  obtain ⟨t1, P1, k1⟩ := hl
  obtain ⟨t2, P2, k2⟩ := hu
  refine pe_out (pe_slice sl_list pe_in P1 P2) (ha σ H _ h0 fun v H1 s1 ⟨m, xs, e1, e2, e3⟩ => k1 σ H1 _ (h0.ext s1) fun H2 s2 => k2 σ H2 _ ((h0.ext s1).ext s2) fun H3 s3 => ?_)
  have s13 := Same.trans s2 s3
  refine ⟨m, xs, e1, .inl (.inl (s13 _ _ e2)), fun n hn => ?_⟩
  have s1n := Same.trans (Same.trans s1 s13) (Same.new (o := .lst (cutV xs o u)) hn)
  refine q _ _ s1n ⟨n, _, rfl, cut_new (Same.free (Same.trans s1 s13) hn) upd_same, ?_⟩
  exact A2.keep (l := cutL l o u) (keep_cut s1n) (A2.mono (l := cutL l o u) (Same.new hn) (A2.mono (l := cutL l o u) s13 (A2.cut (l := l) e3)))
/-! ### a list so many times -/
theorem A2.rep {α : Type} [Ty α] {l : List α} {xs : List V} {H : Hp} (h : A2 l xs H) : ∀ n : Nat, A2 (List.replicate n l).flatten (List.replicate n xs).flatten H
  | 0 => .nil
  | n + 1 => by
    rw [List.replicate_succ, List.replicate_succ, List.flatten_cons, List.flatten_cons]
    exact Paired.app h (A2.rep h n)
theorem e_rep {α : Type} [Im α] {l : List α} (hx : -(2 ^ 62) ≤ x ∧ x < 2 ^ 62) (hz : l.length * x.toNat < 1000000) (ha : E X H0 G a (Val (Lst.mk l))) (hb : E X H0 G b (Val x)) : E X H0 G (.BinOp a .Mult b pos) (New (Lst.mk (List.replicate x.toNat l).flatten)) := e_op (x := Lst.mk l) (y := x) op_rep (fun v w H Q ⟨p1, xs, a1, a2, a3⟩ h2 k => by
  have h2 : w = .int x := h2
  subst h2
  exact ⟨p1, x, xs, a1, rfl, a2, by omega, by omega, szl (by rw [← A2.len (l := l) a3]; exact hz), fun q hq => k _ _ (Same.new hq) ⟨q, _, rfl, cut_new hq upd_same, A2.keep (l := (List.replicate x.toNat l).flatten) (keep_cut (Same.new hq)) (A2.mono (l := (List.replicate x.toNat l).flatten) (Same.new hq) (A2.rep (l := l) a3 _))⟩⟩) ha hb
/-! ### chains: a <= b <= c -/
theorem e_chainLL {z : Int} (ha : E X H0 G a (Val x)) (hb : E X H0 G b (Val y)) (hc : E X H0 G c (Val z)) (hm : lastMarks [.LtE, .LtE] [b, c] = false := by rfl) : E X H0 G (.Compare a [.LtE, .LtE] [b, c] pos) (Val (decide (x ≤ y) && decide (y ≤ z))) := fun σ H Q h0 q =>
  pe_out (pe_chain op_le op_le pe_in pe_in pe_in hm) (ha σ H _ h0 fun v H1 s1 q1 => hb σ H1 _ (h0.ext s1) fun w H2 s2 q2 => ⟨x, y, q1, q2, _, rfl, by
    by_cases h : x ≤ y
    · rw [if_pos (decide_eq_true h)]
      refine hc σ H2 _ ((h0.ext s1).ext s2) fun u H3 s3 q3 => ⟨y, z, q2, q3, q _ H3 (Same.trans (Same.trans s1 s2) s3) ?_⟩
      rw [decide_eq_true h]
      rfl
    · rw [if_neg (by rw [decide_eq_false h]; decide)]
      refine q _ H2 (Same.trans s1 s2) ?_
      rw [decide_eq_false h]
      rfl⟩)
/-! ### zip -/
def zipL {α β : Type} (l : List α) (m : List β) : List (α × β) := l.zip m
theorem zip_get {α β : Type} {l : List α} {m : List β} {i : Nat} {u : α} {w : β} (h1 : l[i]? = some u) (h2 : m[i]? = some w) : (l.zip m)[i]? = some (u, w) := by
  rw [List.getElem?_zip_eq_some]
  exact ⟨h1, h2⟩
theorem walk_zipT {K : PySem.W.Frag} {a b : Addr} {xs ys : List V} {n : Nat} (hn : n = min xs.length ys.length) : Walk (RZ.ItzT K a b) n (fun H => SqT K H a xs ∧ SqT K H b ys) (YPair (fun i => xs[i]?) (fun i => ys[i]?)) := by
  subst hn
  refine ⟨fun i _ hi q => ?_, fun _ q => ⟨xs, ys, q.1, q.2, by omega⟩, fun i H v H' _ q ⟨T, x, z, h1, h2, h3, h4, h5⟩ => ⟨T, x, z, h1, h2, h3, h4 xs q.1, h5 ys q.2⟩⟩
  have h1 : i < xs.length := by omega
  have h2 : i < ys.length := by omega
  exact ⟨xs, ys, xs[i], ys[i], q.1, q.2, by simp [h1], by simp [h2]⟩
theorem ei_zipT {α β : Type} [Im α] [Im β] {l : List α} {m : List β} {elts : List Expr} {kk : Nat} {tpos : Pos} (hm : X.mg "zip" = none) (ha : E X H0 G a (Val l)) (hb : E X H0 G b (Val m)) (hg : Gl X "zip" := by rfl) (hs : starEach [a, b] X.env = (false, eval a X.env) :: starEach [b] X.env := by rfl) (hs2 : starEach [b] X.env = (false, eval b X.env) :: starEach [] X.env := by rfl) (hpl : (backTo pos (starEach [b] X.env)).any (·.1) = false := by rfl) :
    EI X H0 G (.Tuple elts kk tpos) (.Call (.Name "zip" p) [a, b] [] pos) (l.zip m) := fun σ H Rr h0 q =>
  pi_out (RZ.pi_zipA hg hm (pa_cons pe_in (pa_cons pe_in pa_nil hs2) hs) hs hpl) (ha σ H _ h0 fun v H1 s1 ⟨q1, xs, e1, e2, e3⟩ => hb σ H1 _ (h0.ext s1) fun v' H2 s2 ⟨q2, ys, f1, f2, f3⟩ => ⟨q1, q2, xs, ys, by rw [e1, f1], .inr ⟨.inl (.inl (s2 _ _ e2)), .inl (.inl f2), q _ H2 (Same.trans s1 s2)
    ⟨fun H => SqT X.K H q1 xs ∧ SqT X.K H q2 ys, YPair (fun i => xs[i]?) (fun i => ys[i]?), walk_zipT (by rw [List.length_zip, e3.len, f3.len]), fun H3 s3 => ⟨.inl (.inl (s3 _ _ (reb_cut h0.same _ _ (keep_cut (Same.trans s1 s2) _ _ (s2 _ _ e2))))), .inl (.inl (s3 _ _ (reb_cut h0.same _ _ (keep_cut (Same.trans s1 s2) _ _ f2))))⟩, fun i H3 v H4 s3 ⟨T, y1, y2, g1, g2, g3, g4, g5⟩ _ => by
      subst g3
      obtain ⟨z, g6, g7⟩ := Paired.get2 e3 g4
      obtain ⟨z', g8, g9⟩ := Paired.get2 f3 g5
      have kt : KeepT H2 (upd H3 T (.tup [y1, y2])) := KeepT.trans (keep_cut (Same.trans s1 s2)) (keepT (Same.trans (Same.trans (reb_cut h0.same) s3) (Same.new g2)))
      exact ⟨Same.new g2, _, zip_get g6 g8, T, _, _, g1, upd_same, Im.keep (KeepT.trans (keepT s2) kt) g7, Im.keep kt g9⟩⟩⟩⟩)
theorem ei_zipO {α β : Type} [Im α] [Im β] {l : List α} {m : List β} {elts : List Expr} {kk : Nat} {tpos : Pos} (hm : X.mg "zip" = none) (ha : E X H0 G a (Old H0 (Lst.mk l))) (hb : E X H0 G b (Old H0 (Lst.mk m))) (hg : Gl X "zip" := by rfl) (hs : starEach [a, b] X.env = (false, eval a X.env) :: starEach [b] X.env := by rfl) (hs2 : starEach [b] X.env = (false, eval b X.env) :: starEach [] X.env := by rfl) (hpl : (backTo pos (starEach [b] X.env)).any (·.1) = false := by rfl) :
    EI X H0 G (.Tuple elts kk tpos) (.Call (.Name "zip" p) [a, b] [] pos) (l.zip m) := fun σ H Rr h0 q =>
  pi_out (RZ.pi_zipA hg hm (pa_cons pe_in (pa_cons pe_in pa_nil hs2) hs) hs hpl) (ha σ H _ h0 fun v H1 s1 ⟨q1, xs, e1, e2, e3⟩ => hb σ H1 _ (h0.ext s1) fun v' H2 s2 ⟨q2, ys, f1, f2, f3⟩ => ⟨q1, q2, xs, ys, by rw [e1, f1], .inl ⟨.inl (.inl (s2 _ _ (s1 _ _ (h0.same _ _ e2)))), .inl (.inl (s2 _ _ (s1 _ _ (h0.same _ _ f2)))), q _ H2 (Same.trans s1 s2)
    ⟨fun H => SqL X.K H q1 xs ∧ SqL X.K H q2 ys, YPair (fun i => xs[i]?) (fun i => ys[i]?), walk_zip (by rw [List.length_zip, A2.len (l := l) e3, A2.len (l := m) f3]), fun H3 s3 => ⟨.inl (.inl (s3 _ _ (reb_old _ _ e2))), .inl (.inl (s3 _ _ (reb_old _ _ f2)))⟩, fun i H3 v H4 s3 ⟨T, y1, y2, g1, g2, g3, g4, g5⟩ _ => by
      subst g3
      obtain ⟨z, g6, g7⟩ := Paired.get2 e3 g4
      obtain ⟨z', g8, g9⟩ := Paired.get2 f3 g5
      have s4 : Same H0 (upd H3 T (.tup [y1, y2])) := Same.trans (Same.trans reb_old s3) (Same.new g2)
      exact ⟨Same.new g2, _, zip_get g6 g8, T, _, _, g1, upd_same, Ty.mono s4 g7, Ty.mono s4 g9⟩⟩⟩⟩)
/-- range downwards -/
def rngD (hi : Int) (n : Nat) : List Int := (List.range n).map fun (i : Nat) => hi + (i : Int) * -1
theorem ei_rngD (hm : X.mg "range" = none) (ha : E X H0 G a (Val x)) (hb : E X H0 G b (Val y)) (hc : E X H0 G c (Val (-1 : Int))) (hx : -(2 ^ 62) ≤ x ∧ x < 2 ^ 62 ∧ -(2 ^ 62) ≤ y ∧ y < 2 ^ 62) (hg : Gl X "range" := by rfl) (hs : starEach [a, b, c] X.env = (false, eval a X.env) :: starEach [b, c] X.env := by rfl) (hs2 : starEach [b, c] X.env = (false, eval b X.env) :: starEach [c] X.env := by rfl) (hs3 : starEach [c] X.env = (false, eval c X.env) :: starEach [] X.env := by rfl) (hpl : (backTo pos (starEach [b, c] X.env)).any (·.1) = false := by rfl) :
    EI X H0 G tg (.Call (.Name "range" p) [a, b, c] [] pos) (rngD x (x - y).toNat) := fun σ H Rr h0 q =>
  pi_out (pi_range3 hg hm (pa_cons pe_in (pa_cons pe_in (pa_cons pe_in pa_nil hs3) hs2) hs) hs hpl) (ha σ H _ h0 fun v1 H1 s1 q1 => hb σ H1 _ (h0.ext s1) fun v2 H2 s2 q2 => hc σ H2 _ ((h0.ext s1).ext s2) fun v3 H3 s3 q3 => by
    have q1 : v1 = .int x := q1
    have q2 : v2 = .int y := q2
    have q3 : v3 = .int (-1) := q3
    subst q1 q2 q3
    refine ⟨x, y, -1, _, rfl, RgC.neg hx.1 hx.2.1 hx.2.2.1 hx.2.2.2, q _ H3 (Same.trans (Same.trans s1 s2) s3) ⟨fun _ => True, YFn fun i => .int (x + (i : Nat) * -1), by rw [show (rngD x (x - y).toNat).length = (x - y).toNat by simp [rngD]]; exact walk_rangeC, fun _ _ => trivial, fun i H v H' _ ⟨y1, y2⟩ hi => ?_⟩⟩
    subst y1
    have hi' : i < (x - y).toNat := by simpa [rngD] using hi
    exact ⟨Same.refl _, x + (i : Nat) * -1, by simp [rngD, hi'], y2⟩)
end
end Lk

/-! LkQ -/
set_option Elab.async false
set_option linter.all false
set_option maxRecDepth 100000
set_option maxHeartbeats 4000000
set_option autoImplicit false
/-! The layer: sorted sets of ints, dict comprehensions, items of owned lists written. -/
namespace Lk
open PySem PySem.Spec PyProof.Rows L2
open Ty (r)
/-- a walk with a step of any kind -/
theorem walk_any {J : It} {n : Nat} {Gd : Hp → Prop} {Y : Nat → Hp → V → Hp → Prop} {STEP : V → Hp → (Hp → Prop) → Prop} {Qd : Hp → Prop} {Hs : Hp} (w : Walk J n Gd Y) (Pv : Nat → Hp → Prop) (h0 : Pv 0 Hs) (hG : ∀ i H, i ≤ n → Pv i H → Gd H) (hs : ∀ i v H H', i < n → Pv i H → Y i H v H' → STEP v H' (Pv (i + 1))) (hd : ∀ H, Pv n H → Qd H) :
    ∃ W : Nat → Nat → Hp → Prop, (∃ m, W 0 m Hs) ∧ ∀ i m H, W i m H → (J.stop i H ∧ Qd H) ∨ (J.go i H ∧ ∃ Nx : Hp → Prop, (∀ H', Nx H' → ∃ m', m' < m ∧ W (i + 1) m' H') ∧ ∀ x H', J.yld i H x H' → STEP x H' Nx) := by
  refine ⟨fun i m H => m = n - i ∧ i ≤ n ∧ Pv i H, ⟨n, by simp, Nat.zero_le _, h0⟩, ?_⟩
  rintro i m H ⟨rfl, hi, q⟩
  have g := hG i H hi q
  by_cases hl : i < n
  · exact .inr ⟨w.goes i H hl g, Pv (i + 1), fun H' q' => ⟨n - (i + 1), by omega, rfl, hl, q'⟩, fun x H' y => hs i x H H' hl q (w.yields i H x H' hl g y)⟩
  · have e : i = n := by omega
    subst e
    exact .inl ⟨w.stops H g, hd H q⟩
/-! ### sorted sets of ints -/
def insS (x : Int) : List Int → List Int
  | [] => [x]
  | y :: l => if x < y then x :: y :: l else if x = y then y :: l else y :: insS x l
def sset (l : List Int) : List Int := l.foldl (fun a x => insS x a) []
theorem insS_mem {x z : Int} : ∀ {l : List Int}, z ∈ insS x l ↔ z = x ∨ z ∈ l
  | [] => by simp [insS]
  | y :: l => by
    unfold insS
    split
    · simp
    · split
      · rename_i h; subst h; simp
      · rw [List.mem_cons, insS_mem, List.mem_cons]
        constructor
        · rintro (h | h | h)
          · exact .inr (.inl h)
          · exact .inl h
          · exact .inr (.inr h)
        · rintro (h | h | h)
          · exact .inr (.inl h)
          · exact .inl h
          · exact .inr (.inr h)
theorem insS_ord {x : Int} : ∀ {l : List Int}, l.Pairwise (· < ·) → (insS x l).Pairwise (· < ·)
  | [], _ => by simp [insS]
  | y :: l, h => by
    rw [List.pairwise_cons] at h
    unfold insS
    split
    · rename_i hl
      rw [List.pairwise_cons, List.pairwise_cons]
      refine ⟨fun z hz => ?_, h⟩
      rcases List.mem_cons.mp hz with q | q
      · rw [q]; exact hl
      · exact Int.lt_trans hl (h.1 z q)
    · split
      · rw [List.pairwise_cons]; exact h
      · rw [List.pairwise_cons]
        refine ⟨fun z hz => ?_, insS_ord h.2⟩
        rcases insS_mem.mp hz with q | q
        · rw [q]; omega
        · exact h.1 z q
theorem insS_len {x : Int} : ∀ {l : List Int}, l.Pairwise (· < ·) → (insS x l).length = if x ∈ l then l.length else l.length + 1
  | [], _ => by simp [insS]
  | y :: l, h => by
    rw [List.pairwise_cons] at h
    unfold insS
    split
    · rename_i hl
      have : ¬ x ∈ y :: l := fun q => by
        rcases List.mem_cons.mp q with q | q
        · omega
        · have := h.1 x q; omega
      rw [if_neg this]
      rfl
    · split
      · rename_i hx; rw [if_pos (by rw [hx]; simp)]
      · rename_i h1 h2
        rw [List.length_cons, insS_len h.2]
        by_cases hm : x ∈ l
        · rw [if_pos hm, if_pos (List.mem_cons_of_mem _ hm)]; rfl
        · rw [if_neg hm, if_neg (fun q => (List.mem_cons.mp q).elim h2 hm)]; rfl
theorem sset_ord : ∀ {l a : List Int}, a.Pairwise (· < ·) → (l.foldl (fun a x => insS x a) a).Pairwise (· < ·)
  | [], _, h => h
  | x :: l, a, h => sset_ord (l := l) (insS_ord h)
theorem sset_le : ∀ {l a : List Int}, (l.foldl (fun a x => insS x a) a).length ≤ a.length + l.length
  | [], a => by simp
  | x :: l, a => by
    have h1 := sset_le (l := l) (a := insS x a)
    have h2 : ∀ (b : List Int), (insS x b).length ≤ b.length + 1 := fun b => by
      induction b with
      | nil => simp [insS]
      | cons y b ih =>
        unfold insS
        split
        · simp
        · split
          · simp
          · simp only [List.length_cons]; omega
    have := h2 a
    show (l.foldl (fun a x => insS x a) (insS x a)).length ≤ a.length + (l.length + 1)
    omega
section
variable {X : Cx} {H0 He : Hp} {G : List Slot} {e a b c d tg : Expr} {es : List Expr} {pos p p1 p2 p' : Pos} {ρ : Res} {R : Ars} {D : Ends} {st : Stmt} {rest body els : List Stmt} {k : Bool} {x y : Int}
/-- sorted({e for x in it if t}) -/
theorem e_sortSc {iter elt tst : Expr} {scope : Scope} {γ : Type} [Im γ] {l : List γ} {js : List Nat} {up : γ → List Slot → List Slot} {pf : γ → Bool} {ff : γ → Int} (own : List (Str × Nat)) (hN : X.N.Nodup) (hms : X.mg "sorted" = none) (hi : EI X H0 G tg iter l) (hlen : l.length < 60)
    (hg : ∀ (s : Shared) (H : Hp) (C : Addr) (cl : List (Str × Addr)) (fp : List Addr), Tgt (X.blk s H scope (compEnvC scope cl C X.env) fp) tg js up)
    (ht : ∀ (s : Shared) (H : Hp) (C : Addr) (cl : List (Str × Addr)) (fp : List Addr) (H0' : Hp), Same H0 H0' → ∀ x, x ∈ l → ET (X.blk s H scope (compEnvC scope cl C X.env) fp) H0' (up x (wipeG G (own.map (·.2)))) tst (pf x))
    (he : ∀ (s : Shared) (H : Hp) (C : Addr) (cl : List (Str × Addr)) (fp : List Addr) (H0' : Hp), Same H0 H0' → ∀ x, x ∈ l → pf x = true → E (X.blk s H scope (compEnvC scope cl C X.env) fp) H0' (up x (wipeG G (own.map (·.2)))) elt (Val (ff x)))
    (ok : blkC X.N X.env.scope scope own = true := by kernel_rfl) (hj : ∀ j ∈ js, j ∈ own.map (·.2) := by decide) (hc : X.calm = true := by rfl) (hs : ∀ x, foldedSetIterable iter X.env x = pure x := by intro _; rfl)
    (hg' : Gl X "sorted" := by rfl) (hst : starEach [.SetComp elt [⟨tg, iter, [tst], 0⟩] scope p1] X.env = (false, eval (.SetComp elt [⟨tg, iter, [tst], 0⟩] scope p1) X.env) :: starEach [] X.env := by rfl) (hpl : (backTo pos (starEach [] X.env)).any (·.1) = false := by rfl) :
    E X H0 G (.Call (.Name "sorted" p) [.SetComp elt [⟨tg, iter, [tst], 0⟩] scope p1] [] pos) (New (Lst.mk (sset ((l.filter pf).map ff)))) := fun σ H Q h0 q => by
  refine pe_out (pe_callB (cr_sortedSet hc) hg' hms (by decide +kernel) (pa_cons (pe_scI (g := gB X scope tg) (te := eB X scope elt) (tt := cB X scope tst) hc hN pi_in (blkOk_by ok)
    (fun s H C cl fp => ⟨fun pins s1 σ1 H1 v u Q I rv h => h s H C cl fp pins s1 u I rv⟩) (fun s H C cl fp => pts_one ⟨fun pins s1 σ1 H1 Q I h => h s H C cl fp pins s1 I⟩) (fun s H C cl fp => ⟨fun pins s1 σ1 H1 Q I h => h s H C cl fp pins s1 I⟩) hs) pa_nil hst) (by decide) (by decide) hst hpl) (hi σ H _ h0 fun J H1 s1 W => ?_)
  intro Dl hD
  have h1 := h0.reb s1
  obtain ⟨Gd, Y, w, wg, wy⟩ := W
  have sb := reb_le h0.same s1
  refine walk_any (STEP := fun x H' Nx => gB X scope tg x (wipe σ (own.map (·.2))) H' fun σ2 H2 => wipe σ2 (own.map (·.2)) = wipe σ (own.map (·.2)) ∧ cB X scope tst σ2 H2 fun b H3 =>
    if b = true then eB X scope elt σ2 H3 fun y H4 => ∃ (z : Int) (S : Int → Bool) (n : Nat), y = .int z ∧ H4 Dl = some (SetO X.w Dl S n) ∧ n + 1 < scanBound ∧ Nx (upd H4 Dl (SetO X.w Dl (fun j => S j || decide (j = z)) (if S z = true then n else n + 1))) else Nx H3)
    w (fun i H => Same H1 H ∧ H Dl = some (SetO X.w Dl (fun j => decide (j ∈ sset (((l.take i).filter pf).map ff))) (sset (((l.take i).filter pf).map ff)).length)) ⟨Same.new hD, by rw [upd_same]; simp [sset]⟩ (fun i H _ q => wg H (Same.trans sb q.1)) (fun i v H H2 hil ⟨q1, q2⟩ yv => ?_) fun H ⟨q1, q2⟩ => ?_
  · obtain ⟨s2, x, e1, e2⟩ := wy i H v H2 (Same.trans sb q1) yv hil
    have tk : l.take (i + 1) = l.take i ++ [x] := by rw [List.take_succ, e1]; rfl
    have sx : Same (reb H0 H1 H1) H2 → True := fun _ => trivial
    intro s H' C cl fp
    refine hg s H' C cl fp x v _ _ _ H2 _ e2 ((h1.ext (Same.trans q1 s2)).wipe (own.map (·.2))) fun σ2 a3 hw => ⟨by rw [hw _ hj, wipe_wipe], ?_⟩
    intro s' H'' C' cl' fp'
    refine ht s' H'' C' cl' fp' _ reb_old x (List.mem_of_getElem? e1) σ2 H2 _ a3 fun H3 s3 => ?_
    cases hk : pf x with
    | false =>
      rw [if_neg (by decide)]
      refine ⟨Same.trans (Same.trans q1 s2) s3, ?_⟩
      rw [tk, List.filter_append, List.filter_cons, if_neg (by rw [hk]; decide), List.filter_nil, List.append_nil]
      exact s3 _ _ (s2 _ _ q2)
    | true =>
      rw [if_pos rfl]
      intro s' H'' C' cl' fp'
      refine he s' H'' C' cl' fp' _ reb_old x (List.mem_of_getElem? e1) hk σ2 H3 _ (a3.ext s3) fun y H5 s5 p5 => ?_
      have e5 : y = .int (ff x) := p5
      have sD := s5 _ _ (s3 _ _ (s2 _ _ q2))
      have ord : (sset (((l.take i).filter pf).map ff)).Pairwise (· < ·) := sset_ord List.Pairwise.nil
      have step : sset (((l.take (i + 1)).filter pf).map ff) = insS (ff x) (sset (((l.take i).filter pf).map ff)) := by
        rw [tk, List.filter_append, List.filter_cons, if_pos hk, List.filter_nil, List.map_append]
        unfold sset
        rw [List.foldl_append]
        rfl
      refine ⟨ff x, _, _, e5, sD, ?_, fun b o hb => ?_, ?_⟩
      · have h2 := sset_le (l := ((l.take i).filter pf).map ff) (a := [])
        have h3 := List.length_filter_le pf (l.take i)
        rw [List.length_map, List.length_nil] at h2
        rw [List.length_take] at h3
        have h4 : (sset (((l.take i).filter pf).map ff)).length < 61 := by
          unfold sset
          omega
        have : (62 : Nat) ≤ scanBound := by decide
        omega
      · rw [upd_ne (ne_of_none hb hD)]
        exact s5 _ _ (s3 _ _ (s2 _ _ (q1 b o hb)))
      · rw [upd_same, step]
        congr 1
        have ef : (fun j => decide (j ∈ sset (((l.take i).filter pf).map ff)) || decide (j = ff x)) = fun j => decide (j ∈ insS (ff x) (sset (((l.take i).filter pf).map ff))) := by
          funext j
          by_cases hj1 : j = ff x
          · have : j ∈ insS (ff x) (sset (((l.take i).filter pf).map ff)) := insS_mem.mpr (.inl hj1)
            rw [decide_eq_true this, decide_eq_true hj1, Bool.or_true]
          · by_cases hj2 : j ∈ sset (((l.take i).filter pf).map ff)
            · rw [decide_eq_true hj2, decide_eq_true (insS_mem.mpr (.inr hj2))]; rfl
            · rw [decide_eq_false hj2, decide_eq_false hj1, decide_eq_false fun z => (insS_mem.mp z).elim hj1 hj2]; rfl
        have en : (if decide (ff x ∈ sset (((l.take i).filter pf).map ff)) = true then (sset (((l.take i).filter pf).map ff)).length else (sset (((l.take i).filter pf).map ff)).length + 1) = (insS (ff x) (sset (((l.take i).filter pf).map ff))).length := by
          rw [insS_len ord]
          by_cases hm : ff x ∈ sset (((l.take i).filter pf).map ff)
          · rw [if_pos hm, if_pos (decide_eq_true hm)]
          · rw [if_neg hm, if_neg (by rw [decide_eq_false hm]; decide)]
        rw [ef, en]
  · rw [List.take_length] at q2
    refine ⟨Dl, _, _, rfl, q2, ?_, fun ns p' o1 o2 o3 hp' => ?_⟩
    · have h2 := sset_le (l := (l.filter pf).map ff) (a := [])
      have h3 := List.length_filter_le pf l
      rw [List.length_map, List.length_nil] at h2
      unfold sset
      omega
    · have ord : (sset ((l.filter pf).map ff)).Pairwise (· < ·) := sset_ord List.Pairwise.nil
      have eq : ns = sset ((l.filter pf).map ff) := by
        have lt_uniq : ∀ {u v : List Int}, u.Pairwise (· < ·) → v.Pairwise (· < ·) → (∀ z : Int, z ∈ u ↔ z ∈ v) → u = v := fun {u} => by
          induction u with
          | nil =>
            intro v _ _ h
            cases v with
            | nil => rfl
            | cons z v => exact absurd ((h z).mpr (by simp)) (by simp)
          | cons z u ih =>
            intro v hu hv h
            cases v with
            | nil => exact absurd ((h z).mp (by simp)) (by simp)
            | cons z' v =>
              rw [List.pairwise_cons] at hu hv
              have e : z = z' := by
                rcases List.mem_cons.mp ((h z).mp (by simp)) with g | g
                · exact g
                · rcases List.mem_cons.mp ((h z').mpr (by simp)) with g' | g'
                  · exact g'.symm
                  · have := hu.1 z' g'
                    have := hv.1 z g
                    omega
              subst e
              rw [ih hu.2 hv.2 fun t => ?_]
              constructor
              · intro ht
                rcases List.mem_cons.mp ((h t).mp (List.mem_cons_of_mem _ ht)) with g | g
                · have := hu.1 t ht; omega
                · exact g
              · intro ht
                rcases List.mem_cons.mp ((h t).mpr (List.mem_cons_of_mem _ ht)) with g | g
                · have := hv.1 t ht; omega
                · exact g
        exact lt_uniq o1 ord fun z => by rw [o2 z]; simp
      subst eq
      have sp := Same.trans (Same.trans s1 q1) (Same.new (o := .lst ((sset ((l.filter pf).map ff)).map V.int)) hp')
      exact q _ _ sp ⟨p', _, rfl, cut_new (Same.free (Same.trans s1 q1) hp') upd_same, A2.of_ints⟩
/-- {k: v for x in it} -/
theorem e_dc {iter kx vx : Expr} {scope : Scope} {γ α : Type} [Im γ] [Im α] {l : List γ} {js : List Nat} {up : γ → List Slot → List Slot} {kf : γ → Int} {vf : γ → α} (own : List (Str × Nat)) (hN : X.N.Nodup) (hi : EI X H0 G tg iter l) (hlen : l.length < 100000)
    (hg : ∀ (s : Shared) (H : Hp) (C : Addr) (cl : List (Str × Addr)) (fp : List Addr), Tgt (X.blk s H scope (compEnvC scope cl C X.env) fp) tg js up)
    (hk : ∀ (s : Shared) (H : Hp) (C : Addr) (cl : List (Str × Addr)) (fp : List Addr) (H0' : Hp), Same H0 H0' → ∀ x, x ∈ l → E (X.blk s H scope (compEnvC scope cl C X.env) fp) H0' (up x (wipeG G (own.map (·.2)))) kx (Val (kf x)))
    (hv : ∀ (s : Shared) (H : Hp) (C : Addr) (cl : List (Str × Addr)) (fp : List Addr) (H0' : Hp), Same H0 H0' → ∀ x, x ∈ l → E (X.blk s H scope (compEnvC scope cl C X.env) fp) H0' (up x (wipeG G (own.map (·.2)))) vx (Val (vf x)))
    (ok : blkC X.N X.env.scope scope own = true := by kernel_rfl) (hj : ∀ j ∈ js, j ∈ own.map (·.2) := by decide) (hc : X.calm = true := by rfl) (hs : ∀ x, foldedSetIterable iter X.env x = pure x := by intro _; rfl) :
    E X H0 G (.DictComp kx vx [⟨tg, iter, [], 0⟩] scope pos) (New (Dic.mk (l.foldl (fun a x => dput a (kf x) (vf x)) []))) := fun σ H Q h0 q => by
  refine pe_out (pe_dc (g := gB X scope tg) (tk := eB X scope kx) (tv := eB X scope vx) hc hN pi_in (blkOk_by ok)
    (fun s H C cl fp => ⟨fun pins s1 σ1 H1 v u Q I rv h => h s H C cl fp pins s1 u I rv⟩) (fun _ _ _ _ _ => pts_nil) (fun s H C cl fp => ⟨fun pins s1 σ1 H1 Q I h => h s H C cl fp pins s1 I⟩) (fun s H C cl fp => ⟨fun pins s1 σ1 H1 Q I h => h s H C cl fp pins s1 I⟩) hs) (hi σ H _ h0 fun J H1 s1 W => ?_)
  intro Dl hD
  have h1 := h0.reb s1
  obtain ⟨Gd, Y, w, wg, wy⟩ := W
  have sb := reb_le h0.same s1
  refine walk_any (STEP := fun x H' Nx => gB X scope tg x (wipe σ (own.map (·.2))) H' fun σ2 H2 => wipe σ2 (own.map (·.2)) = wipe σ (own.map (·.2)) ∧ tYes σ2 H2 fun b H3 =>
    if b = true then eB X scope kx σ2 H3 fun y H4 => eB X scope vx σ2 H4 fun z H5 => ∃ kvs k, y = kV k ∧ H5 Dl = some (.dK kvs) ∧ kvs.length < sizeLine ∧ Nx (upd H5 Dl (.dK (putK kvs k z))) else Nx H3)
    w (fun i H => Same H1 H ∧ ∃ kvs, H Dl = some (.dK kvs) ∧ kvs.length ≤ i ∧ KVs ((l.take i).foldl (fun a x => dput a (kf x) (vf x)) []) kvs H) ⟨Same.new hD, [], upd_same, Nat.zero_le _, .nil⟩ (fun i H _ q => wg H (Same.trans sb q.1)) (fun i v H H2 hil ⟨q1, kvs, q2, q3, q4⟩ yv => ?_) fun H ⟨q1, kvs, q2, _, q4⟩ => ?_
  · obtain ⟨s2, x, e1, e2⟩ := wy i H v H2 (Same.trans sb q1) yv hil
    have tk : l.take (i + 1) = l.take i ++ [x] := by rw [List.take_succ, e1]; rfl
    intro s H' C cl fp
    refine hg s H' C cl fp x v _ _ _ H2 _ e2 ((h1.ext (Same.trans q1 s2)).wipe (own.map (·.2))) fun σ2 a3 hw => ⟨by rw [hw _ hj, wipe_wipe], ?_⟩
    unfold tYes
    refine iteT ?_
    intro s' H'' C' cl' fp'
    refine hk s' H'' C' cl' fp' _ reb_old x (List.mem_of_getElem? e1) σ2 H2 _ a3 fun yk H4 s4 p4 => ?_
    intro s' H'' C' cl' fp'
    refine hv s' H'' C' cl' fp' _ reb_old x (List.mem_of_getElem? e1) σ2 H4 _ (a3.ext s4) fun yv H5 s5 p5 => ?_
    have e4 : yk = .int (kf x) := p4
    have sH5 := Same.trans s2 (Same.trans s4 s5)
    have kt := kt_dK (o := .dK (putK kvs (.inl (kf x)) yv)) (sH5 _ _ q2)
    refine ⟨kvs, .inl (kf x), e4, sH5 _ _ q2, ?_, fun b o hb => ?_, putK kvs (.inl (kf x)) yv, upd_same, ?_, ?_⟩
    · have : sizeLine = 16777216 := by decide
      omega
    · rw [upd_ne (ne_of_none hb hD)]
      exact sH5 _ _ (q1 b o hb)
    · unfold putK
      split
      · rw [List.length_map]; omega
      · rw [List.length_append, List.length_singleton]; omega
    · rw [tk, List.foldl_append]
      exact KVs.put (KVs.keep kt (KVs.mono sH5 q4)) (Im.keep kt p5)
  · rw [List.take_length] at q4
    have sp := Same.trans s1 q1
    exact q _ H sp ⟨Dl, kvs, rfl, cut_new (Same.free s1 hD) q2, KVs.keep (keep_cut sp) q4⟩
/-! ### an item of an owned list written -/
theorem ixN_atI {α : Type} {l : List α} {i : Int} {u : α} (h : atI l i = some u) : ∃ j, ixN l.length i = some j ∧ l[j]? = some u := by
  unfold atI at h
  cases e : ixN l.length i with
  | none => rw [e] at h; cases h
  | some j => rw [e] at h; exact ⟨j, rfl, h⟩
def setI {α : Type} (l : List α) (i : Int) (u : α) : List α := match ixN l.length i with
  | some j => l.set j u
  | none => l
theorem Paired.set {α β : Type} {F : α → β → Prop} {a : α} {b : β} (f : F a b) : ∀ {l : List α} {m : List β} (i : Nat), Paired F l m → Paired F (l.set i a) (m.set i b)
  | _, _, _, .nil => .nil
  | _, _, 0, .cons _ t => .cons f t
  | _, _, i + 1, .cons g t => .cons g (Paired.set f i t)
theorem get_lst : PGet X (fun o i H Q => ∃ q xs j v, o = .ref q ∧ i = .int ((j : Nat) : Int) ∧ H q = some (.lst xs) ∧ xs[j]? = some v ∧ Q v H) := by
  intro pins s σ H o i ov iv Q I ro ri h
  obtain ⟨q, xs, j, v, rfl, rfl, hq, hv, k1⟩ := h
  cases ro
  obtain ⟨t, rfl⟩ := ri
  obtain ⟨its, r, pl, hz⟩ := I.list (.inl (.inl hq))
  obtain ⟨w, ew, rw'⟩ := r.get hv
  have hj := (List.getElem?_eq_some_iff.mp hv).1
  have hn := line63
  exact getItem_listL pl.isList (by omega) (by omega) (by rw [Int.toNat_natCast]; exact ew) ⟨v, H, I, rw', k1⟩
/-- l[i] op= e -/
theorem b_augL {op : Operator} {gf : Int → Int → Int} (ho : PIp X op (ipI gf)) (j : Nat) {l : List Int} {i : Nat} {u w : Int} {n : Str} {ix : Expr} (hi : E X H0 G ix (Val (i : Int))) (he : E X H0 G e (Val w)) (hu : l[i]? = some u) (hl : l.length < 1000000) (hr : B X H0 (G.set j (.own (l.set i (gf u w)))) rest D) (hG : G[j]? = some (.own l) := by rfl) (hN : X.N[j]? = some n := by rfl) (hv : Vis X.env.scope n := by first | exact Or.inl rfl | exact Or.inr (Or.inl rfl) | exact Or.inr (Or.inr rfl))
    (hd : (n == ("__debug__" : Str)) = false := by decide) (hcd : (n == ("__classdict__" : Str)) = false := by decide) (ha : ∀ ov iv new, augStore ix ov iv new = (do holding [new, ov, iv] (setItem ov iv new); release [new, ov, iv] []; pure .next) := by intros; rfl) : B X H0 G (.AugAssign (.Subscript (.Name n p1) ix p2) op e pos :: rest) D := B.seq fun σ H h0 => by
  obtain ⟨v, e1, q, xs, rfl, e3, e4, e5⟩ := h0.get hG (by intro z; cases z)
  refine ps_out (ps_augS (pe_var hN hv hd hcd) pe_in get_lst pe_in ho set_list ha) ⟨_, e1, hi σ H _ h0 fun z H1 s1 p1 => ?_⟩
  have p1 : z = .int (i : Int) := p1
  subst p1
  obtain ⟨v', g1, g2⟩ := Paired.get1 e5 hu
  have g2 : v' = .int u := g2
  subst g2
  refine ⟨q, xs, i, _, rfl, rfl, s1 _ _ e4, g1, he σ H1 _ (h0.ext s1) fun z2 H2 s2 p2 => ?_⟩
  have p2 : z2 = .int w := p2
  subst p2
  have s3 := Same.trans s1 s2
  have il : i < l.length := (List.getElem?_eq_some_iff.mp hu).1
  refine ⟨u, w, rfl, rfl, q, xs, (i : Int), i, rfl, rfl, s3 _ _ e4, ?_, ?_⟩
  · unfold ixN
    rw [if_pos (by omega), if_pos (by rw [← A2.len (l := l) e5]; omega), Int.toNat_natCast]
  · refine hr σ _ ((h0.ext s3).put hG trivial e1 trivial ⟨q, _, rfl, e3, upd_same, ?_⟩)
    exact Paired.set (F := fun a v => r a v _) rfl i (A2.keep (l := l) (kt_own (o := .lst (xs.set i (.int (gf u w)))) (s3 _ _ e4)) (A2.mono (l := l) s3 e5))
end
end Lk

/-! LkD1 -/
set_option Elab.async false
set_option linter.all false
set_option maxRecDepth 100000
set_option maxHeartbeats 4000000
set_option autoImplicit false
/-! Defs of lots. -/
namespace Lk
open PySem PySem.Spec PyProof.Rows L2
open Ty (r)
theorem Sub.setNo {G G' : List Slot} (h : Sub G G') : ∀ v : Nat, Sub G (G'.set v .no) := by
  induction h with
  | nil => intro v; exact .nil
  | keep s _ ih =>
    intro v
    cases v with
    | zero => exact .drop s (by assumption)
    | succ v => exact .keep s (ih v)
  | drop s _ ih =>
    intro v
    cases v with
    | zero => exact .drop s (by assumption)
    | succ v => exact .drop s (ih v)
theorem Sub.of {G : List Slot} : ∀ js : List Nat, Sub G (wipeG G js)
  | [] => Sub.refl G
  | v :: vs => (Sub.of vs).setNo v
theorem foldl_inv {α β : Type} {f : β → α → β} {l : List α} (I : β → Prop) (hs : ∀ s x, x ∈ l → I s → I (f s x)) : ∀ {s0 : β} (n : Nat), I s0 → I ((l.take n).foldl f s0) := by
  induction l with
  | nil => intro s0 n h; simpa using h
  | cons a l ih =>
    intro s0 n h
    cases n with
    | zero => exact h
    | succ n =>
      show I ((l.take n).foldl f (f s0 a))
      exact ih (fun s x hx => hs s x (List.mem_cons_of_mem _ hx)) n (hs s0 a (by simp) h)
theorem foldl_inv' {α β : Type} {f : β → α → β} {l : List α} (I : β → Prop) (hs : ∀ s x, x ∈ l → I s → I (f s x)) {s0 : β} (h : I s0) : I (l.foldl f s0) := by
  have := foldl_inv I hs (s0 := s0) l.length h
  rwa [List.take_length] at this
theorem rng_mem {lo x : Int} {n : Nat} (h : x ∈ rng lo n) : lo ≤ x ∧ x < lo + n := by
  unfold rng at h
  obtain ⟨i, h1, rfl⟩ := List.mem_map.mp h
  have := List.mem_range.mp h1
  omega
theorem enm_mem {γ : Type} {l : List γ} {e : Int × γ} (h : e ∈ enm l) : 0 ≤ e.1 ∧ e.1 < l.length ∧ e.2 ∈ l := by
  unfold enm at h
  obtain ⟨⟨x, i⟩, h1, rfl⟩ := List.mem_map.mp h
  have h2 := List.mem_zipIdx h1
  refine ⟨by simp, ?_, ?_⟩
  · show (i : Int) < l.length
    omega
  · obtain ⟨_, h3, h4⟩ := h2
    show x ∈ l
    simp only [Nat.sub_zero] at h4
    rw [h4]
    exact List.getElem_mem _
theorem some_getD {α : Type} {o : Option α} {d : α} (h : o.isSome = true) : o = some (o.getD d) := by
  cases o with
  | none => cases h
  | some u => rfl
section
variable {X : Cx} {H0 : Hp} {G : List Slot} {c : Expr} {pos : Pos} {D : Ends} {rest body els : List Stmt} {k : Bool}
theorem b_ifN (hc : ET X H0 G c k) (hk : k = false) (h2 : B X H0 G rest D) : B X H0 G (.If c body [] pos :: rest) D := b_ifR hc (fun h => by rw [hk] at h; cases h) fun _ => h2
theorem b_e {H0b : Hp} (js : List Nat) (hs : Same H0b H0) (h : D.nx = AtU H0b (wipeG G js) := by rfl) : B X H0 G [] D := b_nil fun σ H a => by rw [h]; exact ⟨H0, hs, a.sub (Sub.of js)⟩
theorem b_cont {H0b : Hp} (js : List Nat) (hs : Same H0b H0) (h : D.ct = AtU H0b (wipeG G js) := by rfl) : B X H0 G (.Continue pos :: rest) D := B.seq fun σ H a => ps_out ps_continue (by
  show D.ct σ H
  rw [h]; exact ⟨H0, hs, a.sub (Sub.of js)⟩)
theorem nox_own {m : Model} {A : Around} {env : Env} : PassesOwn m A env (fun _ _ => False) := fun _ _ h => h.elim
end
section
variable {P : Program} {w : World} {K : PySem.W.Frag} {mg : Str → Option Value} {base : Heap}
/-! ### is_whole -/
theorem ok_is_whole (T : Tx K mg) : Cal P w K mg base 1 "is_whole" ["thing"] (spG (fun i : Int => (.cons i .nil)) (fun i => (fun (thing : Int) => True) i) fun i => (fun (thing : Int) => Val (decide (0 ≤ thing))) i) := by
  obtain ⟨fd, F⟩ := T.f_is_whole
  refine cal_of F T.g_is_whole (fn_ok (fun i => [.im (i)]) 0 F sc_is_whole (fun i => (ent_im ent_nil)) (fun _ => rfl) (fun _ => rfl) fun cdv A outer s H Ex i hr hp => ?_) (fun _ _ _ _ _ _ us hl => match us, hl with | [_], _ => rfl)
  revert i; intro thing hp
  have hp : True := hp
  exact b_retV (e_and (e_isi T.m_isinstance T.m_int (by decide +kernel) (by decide +kernel : kitB "int" "int" = some true) (e_var 0) ty_int) fun _ => e_and (e_not (e_isi T.m_isinstance T.m_bool (by decide +kernel) (by decide +kernel : kitB "int" "bool" = some false) (e_var 0) ty_int)) fun _ => e_one (e_ge (e_var 0) e_int)) (Same.refl _) rfl
theorem ok_is_number (T : Tx K mg) : Cal P w K mg base 1 "is_number" ["thing"] (spG (fun i : Int => (.cons i .nil)) (fun i => (fun (thing : Int) => True) i) fun i => (fun (thing : Int) => Val (decide (0 ≤ thing))) i) := by
  obtain ⟨fd, F⟩ := T.f_is_number
  refine cal_of F T.g_is_number (fn_ok (fun i => [.im (i)]) 0 F sc_is_number (fun i => (ent_im ent_nil)) (fun _ => rfl) (fun _ => rfl) fun cdv A outer s H Ex i hr hp => ?_) (fun _ _ _ _ _ _ us hl => match us, hl with | [_], _ => rfl)
  revert i; intro thing hp
  have hp : True := hp
  exact b_retV (e_and (e_isi T.m_isinstance T.m_int (by decide +kernel) (by decide +kernel : kitB "int" "int" = some true) (e_var 0) ty_int) fun _ => e_and (e_not (e_isi T.m_isinstance T.m_bool (by decide +kernel) (by decide +kernel : kitB "int" "bool" = some false) (e_var 0) ty_int)) fun _ => e_one (e_ge (e_var 0) e_int)) (Same.refl _) rfl
/-! ### choose -/
def chStep (n : Int) (found step : Int) : Int := found * (n - step) / (step + 1)
def chooseI (n k : Int) : Int := if n < k then 0 else (rng 0 (if n - k < k then n - k else k).toNat).foldl (chStep n) 1
def nk (n k : Int) : Prop := -9 ≤ n ∧ n ≤ 9 ∧ -9 ≤ k ∧ k ≤ 9
instance (n k : Int) : Decidable (nk n k) := by unfold nk; infer_instance
theorem ok_choose (T : Tx K mg) : Cal P w K mg base 1 "choose" ["n", "k"] (spG (fun i : Int × Int => (.cons i.1 (.cons i.2 .nil))) (fun i => (fun (n : Int) (k : Int) => nk n k) i.1 i.2) fun i => (fun (n : Int) (k : Int) => Val (chooseI n k)) i.1 i.2) := by
  obtain ⟨fd, F⟩ := T.f_choose
  refine cal_of F T.g_choose (fn_ok (fun i => [.im (i.1), .im (i.2)]) 2 F sc_choose (fun i => (ent_im (ent_im ent_nil))) (fun _ => rfl) (fun _ => rfl) fun cdv A outer s H Ex i hr hp => ?_) (fun _ _ _ _ _ _ us hl => match us, hl with | [_, _], _ => rfl)
  obtain ⟨n, k⟩ := i
  have hp : nk n k := hp
  unfold nk at hp
  refine b_ifR (et_gt (e_var 1) (e_var 0)) (fun h => ?_) fun h => ?_
  · have h := of_decide_eq_true h
    exact b_retV e_int (Same.refl _) (show (0 : Int) = chooseI n k by unfold chooseI; rw [if_pos h])
  · have h := of_decide_eq_false h
    refine b_set 2 e_int ?_ sc_choose.nd
    refine b_forF (fun f => [.im n, .im k, .im f, .no]) (chStep n) 1 (ei_rng1 T.m_range (e_min (p1 := ⟨0, 0, 0, 0⟩) rfl T.m_min (e_var 1) (e_sub (e_var 0) (e_var 1))) (by split <;> omega)) (tgt_name 3 sc_choose.nd) (Sub.of []) (fun H0' hs i x s e es => ?_) (fun H0' hs => ?_) nox_own
    · have hx := rng_mem (List.mem_of_getElem? e)
      refine b_set 2 (e_fdiv ?_ (e_mul ?_ (e_var 2) (e_sub (e_var 0) (e_var 3))) (e_add (e_var 3) e_int)) (b_e [3] (Same.refl _)) sc_choose.nd
      · unfold CDiv; split at hx <;> omega
      · unfold CMul; refine .inr ?_; split at hx <;> omega
    · exact b_retV (e_var 2) hs (show _ = chooseI n k by unfold chooseI; rw [if_neg h])
/-! ### number_of -/
def noStep (hands sz : Int) (s : Int × Int) (e : Int × Int) : Int × Int := ((rng s.2 (e.2 - s.2).toNat).foldl (fun m lesser => m + chooseI (hands - lesser - 1) (sz - e.1 - 1)) s.1, e.2 + 1)
def numberOf (hands : Int) (lot : List Int) : Int := ((enm lot).foldl (noStep hands lot.length) (0, 0)).1
theorem ok_number_of (T : Tx K mg) : Cal P w K mg base 2 "number_of" ["hands", "lot"] (spG (fun i : Int × ((List Int)) => (.cons i.1 (.cons i.2 .nil))) (fun i => (fun (hands : Int) (lot : (List Int)) => 0 ≤ hands ∧ hands ≤ 6 ∧ lot.length ≤ 6 ∧ ∀ e ∈ lot, (0 : Int) ≤ e ∧ e ≤ 6) i.1 i.2) fun i => (fun (hands : Int) (lot : (List Int)) => Val (numberOf hands lot)) i.1 i.2) := by
  obtain ⟨fd, F⟩ := T.f_number_of
  refine cal_of F T.g_number_of (fn_ok (fun i => [.im (i.1), .im (i.2)]) 5 F sc_number_of (fun i => (ent_im (ent_im ent_nil))) (fun _ => rfl) (fun _ => rfl) fun cdv A outer s H Ex i hr hp => ?_) (fun _ _ _ _ _ _ us hl => match us, hl with | [_, _], _ => rfl)
  obtain ⟨hands, lot⟩ := i
  have hp : 0 ≤ hands ∧ hands ≤ 6 ∧ lot.length ≤ 6 ∧ ∀ e ∈ lot, (0 : Int) ≤ e ∧ e ≤ 6 := hp
  obtain ⟨h1, h2, h3, h4⟩ := hp
  refine b_par (par_c 2 3 rfl sc_number_of.nd) e_int e_int ?_
  refine b_forF (fun f : Int × Int => [.im hands, .im lot, .im f.1, .im f.2, .no, .no, .no]) (noStep hands lot.length) (0, 0) (ei_enumT T.m_enumerate (e_var 1)) (tgt_2 4 5 rfl sc_number_of.nd) (Sub.of []) (fun H0' hs i x s e es => ?_) (fun H0' hs => ?_) nox_own
  · have hx := enm_mem (List.mem_of_getElem? e)
    obtain ⟨hx1, hx2, hx3⟩ := hx
    have hx3 := h4 _ hx3
    have hs2 : 0 ≤ s.2 ∧ s.2 ≤ 7 := by
      rw [es]
      refine foldl_inv (fun s : Int × Int => 0 ≤ s.2 ∧ s.2 ≤ 7) (fun s x hx _ => ?_) i (by decide)
      have := h4 _ (enm_mem hx).2.2
      show 0 ≤ x.2 + 1 ∧ x.2 + 1 ≤ 7
      omega
    refine b_forF (fun m : Int => [.im hands, .im lot, .im m, .im s.2, .im x.1, .im x.2, .no]) (fun m lesser => m + chooseI (hands - lesser - 1) (lot.length - x.1 - 1)) s.1 (ei_rng2 T.m_range (e_var 3) (e_var 5) (by omega)) (tgt_name 6 sc_number_of.nd) (Sub.of []) (fun H0' hs i y m e es => ?_) (fun H0' hs => ?_) nox_own
    · have hy := rng_mem (List.mem_of_getElem? e)
      refine b_aug ip_add 2 (e_call (ok_choose T) hr (hands - y - 1, lot.length - x.1 - 1) (by show nk _ _; unfold nk; omega) (ea_cons (e_sub (e_sub (e_var 0) (e_var 6)) e_int) (ea_cons (e_sub (e_sub (e_lenT T.m_len (e_var 1) (by omega)) (e_var 4)) e_int) ea_nil))) (b_e [6] (Same.refl _)) sc_number_of.nd
    · exact b_set 3 (e_add (e_var 5) e_int) (b_e [4, 5] hs) sc_number_of.nd
  · exact b_retV (e_var 2) hs rfl
/-! ### lot_at -/
def laC (size : Int) (s : List Int × Int × Int) : Bool := decide ((s.1.length : Int) < size)
def laF (hands size : Int) (s : List Int × Int × Int) : List Int × Int × Int := if s.2.2 < chooseI (hands - s.2.1 - 1) (size - s.1.length - 1) then (s.1 ++ [s.2.1], s.2.1 + 1, s.2.2) else (s.1, s.2.1 + 1, s.2.2 - chooseI (hands - s.2.1 - 1) (size - s.1.length - 1))
def laO (hands size : Int) (s : List Int × Int × Int) : Bool := decide (nk (hands - s.2.1 - 1) (size - s.1.length - 1)) && decide (s.1.length < 9)
def lotAt (hands size number : Int) : List Int := (wl (laC size) (laF hands size) 12 ([], 0, number)).1
def lotAtOk (hands size number : Int) : Bool := decide (0 ≤ number) && decide (number < chooseI hands size) && decide (nk hands size) && wlOk (laC size) (laF hands size) (laO hands size) 12 ([], 0, number)
theorem ok_lot_at (T : Tx K mg) : Cal P w K mg base 2 "lot_at" ["hands", "size", "number"] (spG (fun i : Int × Int × Int => (.cons i.1 (.cons i.2.1 (.cons i.2.2 .nil)))) (fun i => (fun (hands : Int) (size : Int) (number : Int) => lotAtOk hands size number = true) i.1 i.2.1 i.2.2) fun i => (fun (hands : Int) (size : Int) (number : Int) => Val (lotAt hands size number)) i.1 i.2.1 i.2.2) := by
  obtain ⟨fd, F⟩ := T.f_lot_at
  refine cal_of F T.g_lot_at (fn_ok (fun i => [.im (i.1), .im (i.2.1), .im (i.2.2)]) 4 F sc_lot_at (fun i => (ent_im (ent_im (ent_im ent_nil)))) (fun _ => rfl) (fun _ => rfl) fun cdv A outer s H Ex i hr hp => ?_) (fun _ _ _ _ _ _ us hl => match us, hl with | [_, _, _], _ => rfl)
  obtain ⟨hands, size, number⟩ := i
  have hp : lotAtOk hands size number = true := hp
  unfold lotAtOk at hp
  rw [Bool.and_eq_true, Bool.and_eq_true, Bool.and_eq_true, decide_eq_true_eq, decide_eq_true_eq, decide_eq_true_eq] at hp
  obtain ⟨⟨⟨h1, h2⟩, h3⟩, h4⟩ := hp
  refine b_ifN (et_w (ew_or (et_not (et_val (e_call (ok_is_whole T) hr number trivial (ea_cons (e_var 2) ea_nil)))) fun _ => ew_or1 (et_ge (e_var 2) (e_call (ok_choose T) hr (hands, size) h3 (ea_cons (e_var 0) (ea_cons (e_var 1) ea_nil)))))) (by rw [decide_eq_true h1, decide_eq_false (Int.not_le.mpr h2)]; rfl) ?_
  refine b_par3 (par3_l 3 4 5 rfl sc_lot_at.nd) (e_lst0 (α := Int)) e_int (e_var 2) ?_
  refine b_whileC (laC size) (laF hands size) (laO hands size) (fun s => [.im hands, .im size, .im number, .own s.1, .im s.2.1, .im s.2.2, .no]) 12 ([], 0, number) h4 (Sub.of []) (fun H0' hs s _ => et_lt (e_lenL T.m_len (e_own 3)) (e_var 1)) (fun H0' hs s ho hc => ?_) (fun H0' hs => ?_) nox_own
  · unfold laO at ho
    rw [Bool.and_eq_true, decide_eq_true_eq, decide_eq_true_eq] at ho
    refine b_set 6 (e_call (ok_choose T) hr (hands - s.2.1 - 1, size - s.1.length - 1) ho.1 (ea_cons (e_sub (e_sub (e_var 0) (e_var 4)) e_int) (ea_cons (e_sub (e_sub (e_var 1) (e_lenL T.m_len (e_own 3))) e_int) ea_nil))) ?_ sc_lot_at.nd
    refine b_if (et_lt (e_var 5) (e_var 6)) (fun h => ?_) fun h => ?_
    · have h := of_decide_eq_true h
      have e : laF hands size s = (s.1 ++ [s.2.1], s.2.1 + 1, s.2.2) := if_pos h
      rw [e]
      exact b_app 3 (e_var 4) (b_go (b_aug ip_add 4 e_int (b_e [6] (Same.refl _)) sc_lot_at.nd)) (by omega)
    · have h := of_decide_eq_false h
      have e : laF hands size s = (s.1, s.2.1 + 1, s.2.2 - chooseI (hands - s.2.1 - 1) (size - s.1.length - 1)) := if_neg h
      rw [e]
      exact b_aug ip_sub 5 (e_var 6) (b_go (b_aug ip_add 4 e_int (b_e [6] (Same.refl _)) sc_lot_at.nd)) sc_lot_at.nd
  · exact b_retV (e_tupL T.m_tuple (e_own 3)) hs rfl
/-! ### lots -/
def lotsI (hands size : Int) : List (List Int) := (rng 0 (chooseI hands size).toNat).map fun number => lotAt hands size number
def lotsOk (hands size : Int) : Bool := decide (nk hands size) && decide (0 ≤ chooseI hands size ∧ chooseI hands size < 100) && (rng 0 (chooseI hands size).toNat).all fun number => lotAtOk hands size number
theorem ok_lots (T : Tx K mg) : Cal P w K mg base 3 "lots" ["hands", "size"] (spG (fun i : Int × Int => (.cons i.1 (.cons i.2 .nil))) (fun i => (fun (hands : Int) (size : Int) => lotsOk hands size = true) i.1 i.2) fun i => (fun (hands : Int) (size : Int) => Val (lotsI hands size)) i.1 i.2) := by
  obtain ⟨fd, F⟩ := T.f_lots
  refine cal_of F T.g_lots (fn_ok (fun i => [.im (i.1), .im (i.2)]) 2 F sc_lots (fun i => (ent_im (ent_im ent_nil))) (fun _ => rfl) (fun _ => rfl) fun cdv A outer s H Ex i hr hp => ?_) (fun _ _ _ _ _ _ us hl => match us, hl with | [_, _], _ => rfl)
  obtain ⟨hands, size⟩ := i
  have hp : lotsOk hands size = true := hp
  unfold lotsOk at hp
  rw [Bool.and_eq_true, Bool.and_eq_true, decide_eq_true_eq, decide_eq_true_eq, List.all_eq_true] at hp
  obtain ⟨⟨h1, h2⟩, h3⟩ := hp
  refine b_set 2 (e_call (ok_choose T) hr (hands, size) h1 (ea_cons (e_var 0) (ea_cons (e_var 1) ea_nil))) ?_ sc_lots.nd
  refine b_ifN (et_gt (e_var 2) (e_glob T.n_MOST_TOLD)) (decide_eq_false (by show ¬ (2000 : Int) < chooseI hands size; omega)) ?_
  refine b_retV (e_tupL T.m_tuple (E.val (e_lc [("number", 3)] sc_lots.nd (ei_rng1 T.m_range (e_var 2) ?_) ?_ (fun s H C cl fp => tgt_name 3 sc_lots.nd) (fun s H C cl fp H0' hs x hx => E.fresh (e_call (ok_lot_at T) hr (hands, size, x) (h3 x hx) (ea_cons (e_var 0) (ea_cons (e_var 1) (ea_cons (e_var 3) ea_nil)))))))) (Same.refl _) rfl
  · show -(2 ^ 62) ≤ chooseI hands size ∧ chooseI hands size < 2 ^ 62
    omega
  · rw [rng_len]; show (chooseI hands size).toNat < _; omega
/-! ### piece -/
theorem ok_piece (T : Tx K mg) : Cal P w K mg base 3 "piece" ["hands", "file", "lot"] (spG (fun i : Int × ((List Int)) × ((List Int)) => (.cons i.1 (.cons i.2.1 (.cons i.2.2 .nil)))) (fun i => (fun (hands : Int) (file : (List Int)) (lot : (List Int)) => (0 ≤ hands ∧ hands ≤ 6 ∧ lot.length ≤ 6 ∧ ∀ e ∈ lot, (0 : Int) ≤ e ∧ e ≤ 6) ∧ (atI file (numberOf hands lot)).isSome = true) i.1 i.2.1 i.2.2) fun i => (fun (hands : Int) (file : (List Int)) (lot : (List Int)) => Val ((atI file (numberOf hands lot)).getD 0)) i.1 i.2.1 i.2.2) := by
  obtain ⟨fd, F⟩ := T.f_piece
  refine cal_of F T.g_piece (fn_ok (fun i => [.im (i.1), .im (i.2.1), .im (i.2.2)]) 0 F sc_piece (fun i => (ent_im (ent_im (ent_im ent_nil)))) (fun _ => rfl) (fun _ => rfl) fun cdv A outer s H Ex i hr hp => ?_) (fun _ _ _ _ _ _ us hl => match us, hl with | [_, _, _], _ => rfl)
  obtain ⟨hands, file, lot⟩ := i
  have hp : (0 ≤ hands ∧ hands ≤ 6 ∧ lot.length ≤ 6 ∧ ∀ e ∈ lot, (0 : Int) ≤ e ∧ e ≤ 6) ∧ (atI file (numberOf hands lot)).isSome = true := hp
  obtain ⟨h1, h2⟩ := hp
  exact b_ret (e_ixT (some_getD h2) (e_var 1) (e_call (ok_number_of T) hr (hands, lot) h1 (ea_cons (e_var 0) (ea_cons (e_var 2) ea_nil)))) (Same.refl _)
end
end Lk

/-! LkD2 -/
set_option Elab.async false
set_option linter.all false
set_option maxRecDepth 100000
set_option maxHeartbeats 4000000
set_option autoImplicit false
/-! Defs of wishes and makings. -/
namespace Lk
open PySem PySem.Spec PyProof.Rows L2
open Ty (r)
section
variable {P : Program} {w : World} {K : PySem.W.Frag} {mg : Str → Option Value} {base : Heap}
/-! ### sign, without, with_hand -/
def signOf (m : Int) : Int := if decide (m % 2 = 0) = true then 1 else -1
theorem ok_sign_of (T : Tx K mg) : Cal P w K mg base 1 "sign_of" ["many"] (spG (fun i : Int => (.cons i .nil)) (fun i => (fun (many : Int) => True) i) fun i => (fun (many : Int) => Val (signOf many)) i) := by
  obtain ⟨fd, F⟩ := T.f_sign_of
  refine cal_of F T.g_sign_of (fn_ok (fun i => [.im (i)]) 0 F sc_sign_of (fun i => (ent_im ent_nil)) (fun _ => rfl) (fun _ => rfl) fun cdv A outer s H Ex i hr hp => ?_) (fun _ _ _ _ _ _ us hl => match us, hl with | [_], _ => rfl)
  revert i; intro many hp
  have hp : True := hp
  exact b_ret (e_ite (et_eq (e_mod (by decide) (e_var 0) e_int) e_int) (fun _ => e_int) (fun _ => e_neg e_int)) (Same.refl _)
def sgn (hand : Int) (lot : List Int) : Int := signOf ((lot.filter fun one => decide (one < hand)).map fun one => one).length
theorem ok_sign (T : Tx K mg) : Cal P w K mg base 2 "sign" ["hand", "lot"] (spG (fun i : Int × ((List Int)) => (.cons i.1 (.cons i.2 .nil))) (fun i => (fun (hand : Int) (lot : (List Int)) => lot.length < 100000) i.1 i.2) fun i => (fun (hand : Int) (lot : (List Int)) => Val (sgn hand lot)) i.1 i.2) := by
  obtain ⟨fd, F⟩ := T.f_sign
  refine cal_of F T.g_sign (fn_ok (fun i => [.im (i.1), .im (i.2)]) 1 F sc_sign (fun i => (ent_im (ent_im ent_nil))) (fun _ => rfl) (fun _ => rfl) fun cdv A outer s H Ex i hr hp => ?_) (fun _ _ _ _ _ _ us hl => match us, hl with | [_, _], _ => rfl)
  obtain ⟨hand, lot⟩ := i
  have hp : lot.length < 100000 := hp
  refine b_ret (e_call (ok_sign_of T) hr _ trivial (ea_cons (e_lenL T.m_len (E.val (e_lcI [("one", 2)] sc_sign.nd (ei_tup (e_var 1)) hp (fun s H C cl fp => tgt_name 2 sc_sign.nd) (fun s H C cl fp H0' hs x hx => et_lt (e_var 2) (e_var 0)) (fun s H C cl fp H0' hs x hx ht => E.fresh (e_var 2))))) ea_nil)) (Same.refl _)
def withoutI (lot : List Int) (hand : Int) : List Int := (lot.filter fun one => !decide (one = hand)).map fun one => one
theorem ok_without (T : Tx K mg) : Cal P w K mg base 1 "without" ["lot", "hand"] (spG (fun i : ((List Int)) × Int => (.cons i.1 (.cons i.2 .nil))) (fun i => (fun (lot : (List Int)) (hand : Int) => lot.length < 100000) i.1 i.2) fun i => (fun (lot : (List Int)) (hand : Int) => Val (withoutI lot hand)) i.1 i.2) := by
  obtain ⟨fd, F⟩ := T.f_without
  refine cal_of F T.g_without (fn_ok (fun i => [.im (i.1), .im (i.2)]) 1 F sc_without (fun i => (ent_im (ent_im ent_nil))) (fun _ => rfl) (fun _ => rfl) fun cdv A outer s H Ex i hr hp => ?_) (fun _ _ _ _ _ _ us hl => match us, hl with | [_, _], _ => rfl)
  obtain ⟨lot, hand⟩ := i
  have hp : lot.length < 100000 := hp
  exact b_ret (e_tupL T.m_tuple (E.val (e_lcI [("one", 2)] sc_without.nd (ei_tup (e_var 0)) hp (fun s H C cl fp => tgt_name 2 sc_without.nd) (fun s H C cl fp H0' hs x hx => et_ne (e_var 2) (e_var 1)) (fun s H C cl fp H0' hs x hx ht => E.fresh (e_var 2))))) (Same.refl _)
def withHand (lot : List Int) (hand : Int) : List Int := isort (lot ++ [hand])
theorem ok_with_hand (T : Tx K mg) : Cal P w K mg base 1 "with_hand" ["lot", "hand"] (spG (fun i : ((List Int)) × Int => (.cons i.1 (.cons i.2 .nil))) (fun i => (fun (lot : (List Int)) (hand : Int) => lot.length < 50) i.1 i.2) fun i => (fun (lot : (List Int)) (hand : Int) => Val (withHand lot hand)) i.1 i.2) := by
  obtain ⟨fd, F⟩ := T.f_with_hand
  refine cal_of F T.g_with_hand (fn_ok (fun i => [.im (i.1), .im (i.2)]) 0 F sc_with_hand (fun i => (ent_im (ent_im ent_nil))) (fun _ => rfl) (fun _ => rfl) fun cdv A outer s H Ex i hr hp => ?_) (fun _ _ _ _ _ _ us hl => match us, hl with | [_, _], _ => rfl)
  obtain ⟨lot, hand⟩ := i
  have hp : lot.length < 50 := hp
  refine b_ret (e_tupL T.m_tuple (E.val (e_sortT T.m_sorted (e_catT ?_ (e_var 0) (e_tup1 (e_var 1)))))) (Same.refl _)
  show lot.length + 1 < _
  omega
/-! ### wished, first_wishers, leaders -/
def wishedI (wishes : List (Option Int)) : List Int := sset ((wishes.filter fun o => !o.isNone).map fun o => o.getD 0)
theorem ok_wished (T : Tx K mg) : Cal P w K mg base 1 "wished" ["wishes"] (spG (fun i : ((List (Option Int))) => (.cons i .nil)) (fun i => (fun (wishes : (List (Option Int))) => wishes.length < 60) i) fun i => (fun (wishes : (List (Option Int))) => Val (wishedI wishes)) i) := by
  obtain ⟨fd, F⟩ := T.f_wished
  refine cal_of F T.g_wished (fn_ok (fun i => [.im (i)]) 1 F sc_wished (fun i => (ent_im ent_nil)) (fun _ => rfl) (fun _ => rfl) fun cdv A outer s H Ex i hr hp => ?_) (fun _ _ _ _ _ _ us hl => match us, hl with | [_], _ => rfl)
  revert i; intro wishes hp
  have hp : wishes.length < 60 := hp
  refine b_ret (e_tupL T.m_tuple (E.val (e_sortSc [("number", 1)] sc_wished.nd T.m_sorted (ei_tup (e_var 0)) hp (fun s H C cl fp => tgt_name 1 sc_wished.nd) (fun s H C cl fp H0' hs x hx => et_notN (e_var 1)) (fun s H C cl fp H0' hs x hx ht => ?_)))) (Same.refl _)
  cases x with
  | none => cases ht
  | some u => exact E.some (e_var 1)
def fwStep (f : List (Int × Int)) (e : Int × Option Int) : List (Int × Int) := match e.2 with
  | none => f
  | some m => if (dget f m).isSome = true then f else dput f m e.1
def fwD (wishes : List (Option Int)) : List (Int × Int) := (enm wishes).foldl fwStep []
theorem dput_len {α : Type} {l : List (Int × α)} {i : Int} {u : α} : (dput l i u).length ≤ l.length + 1 := by
  unfold dput
  split
  · rw [List.length_map]; omega
  · simp
theorem fw_len : ∀ (l : List (Int × Option Int)) (f : List (Int × Int)), (l.foldl fwStep f).length ≤ f.length + l.length
  | [], f => by simp
  | e :: l, f => by
    have h := fw_len l (fwStep f e)
    have : (fwStep f e).length ≤ f.length + 1 := by
      unfold fwStep
      cases e.2 with
      | none => show f.length ≤ _; omega
      | some m =>
        show (if (dget f m).isSome = true then f else dput f m e.1).length ≤ _
        split
        · omega
        · exact dput_len
    show (l.foldl fwStep (fwStep f e)).length ≤ f.length + (l.length + 1)
    omega
def fwOk (wishes : List (Option Int)) : Bool := (isort ((fwD wishes).map (·.1))).all fun m => (dget (fwD wishes) m).isSome
def firstW (wishes : List (Option Int)) : List Int := (isort ((fwD wishes).map (·.1))).map fun m => (dget (fwD wishes) m).getD 0
theorem ok_first_wishers (T : Tx K mg) : Cal P w K mg base 1 "first_wishers" ["wishes"] (spG (fun i : ((List (Option Int))) => (.cons i .nil)) (fun i => (fun (wishes : (List (Option Int))) => wishes.length < 60 ∧ fwOk wishes = true) i) fun i => (fun (wishes : (List (Option Int))) => Val (firstW wishes)) i) := by
  obtain ⟨fd, F⟩ := T.f_first_wishers
  refine cal_of F T.g_first_wishers (fn_ok (fun i => [.im (i)]) 3 F sc_first_wishers (fun i => (ent_im ent_nil)) (fun _ => rfl) (fun _ => rfl) fun cdv A outer s H Ex i hr hp => ?_) (fun _ _ _ _ _ _ us hl => match us, hl with | [_], _ => rfl)
  revert i; intro wishes hp
  have hp : wishes.length < 60 ∧ fwOk wishes = true := hp
  obtain ⟨h1, h2⟩ := hp
  unfold fwOk at h2
  rw [List.all_eq_true] at h2
  refine b_setOwnK 1 (e_dic0 (α := Int)) ?_ sc_first_wishers.nd
  refine b_forF (fun f : List (Int × Int) => [.im wishes, .ownK f, .no, .no]) fwStep [] (ei_enumT T.m_enumerate (e_var 0)) (tgt_2 2 3 rfl sc_first_wishers.nd) (Sub.of []) (fun H0' hs i x s e es => ?_) (fun H0' hs => ?_) nox_own
  · obtain ⟨xi, xo⟩ := x
    refine b_if (et_notN (e_var 3)) (fun h => ?_) fun h => ?_
    · cases xo with
      | none => cases h
      | some m =>
        refine b_setd 1 (E.some (e_var 3)) (e_var 2) (b_go (b_e [2, 3] (Same.refl _))) ?_
        rw [es]
        have := fw_len ((enm wishes).take i) []
        have h3 : ((enm wishes).take i).length ≤ (enm wishes).length := by rw [List.length_take]; omega
        rw [enm_len] at h3
        simp only [List.length_nil] at this
        show (((enm wishes).take i).foldl fwStep []).length < _
        omega
    · cases xo with
      | none => exact b_go (b_e [2, 3] (Same.refl _))
      | some m => cases h
  · have hl : (fwD wishes).length < 64 := by
      have := fw_len (enm wishes) []
      rw [enm_len] at this
      simp only [List.length_nil] at this
      unfold fwD
      omega
    refine b_ret (e_tupL T.m_tuple (E.val (e_lc [("number", 3)] sc_first_wishers.nd (ei_new (e_sortK rfl T.m_sorted hl (e_ownK 1))) ?_ (fun s H C cl fp => tgt_name 3 sc_first_wishers.nd) (fun s H C cl fp H0' hs x hx => E.fresh (e_getK hr (some_getD (h2 x hx)) (e_ownK 1) (e_var 3)))))) hs
    rw [(isort_perm _).length_eq, List.length_map]
    omega
def leadersI (wishes : List (Option Int)) : List Int := isort (firstW wishes)
theorem ok_leaders (T : Tx K mg) : Cal P w K mg base 2 "leaders" ["wishes"] (spG (fun i : ((List (Option Int))) => (.cons i .nil)) (fun i => (fun (wishes : (List (Option Int))) => wishes.length < 60 ∧ fwOk wishes = true) i) fun i => (fun (wishes : (List (Option Int))) => Val (leadersI wishes)) i) := by
  obtain ⟨fd, F⟩ := T.f_leaders
  refine cal_of F T.g_leaders (fn_ok (fun i => [.im (i)]) 0 F sc_leaders (fun i => (ent_im ent_nil)) (fun _ => rfl) (fun _ => rfl) fun cdv A outer s H Ex i hr hp => ?_) (fun _ _ _ _ _ _ us hl => match us, hl with | [_], _ => rfl)
  revert i; intro wishes hp
  have hp : wishes.length < 60 ∧ fwOk wishes = true := hp
  refine b_ret (e_tupL T.m_tuple (E.val (e_sortT T.m_sorted (e_call (ok_first_wishers T) hr wishes hp (ea_cons (e_var 0) ea_nil))))) (Same.refl _)
/-! ### plain_hands, made -/
def plainH (wishes : List (Option Int)) : List Int := ((rng 0 wishes.length).filter fun hand => !decide (hand ∈ leadersI wishes)).map fun hand => hand
theorem ok_plain_hands (T : Tx K mg) : Cal P w K mg base 3 "plain_hands" ["wishes"] (spG (fun i : ((List (Option Int))) => (.cons i .nil)) (fun i => (fun (wishes : (List (Option Int))) => wishes.length < 60 ∧ fwOk wishes = true) i) fun i => (fun (wishes : (List (Option Int))) => New (Lst.mk (plainH wishes))) i) := by
  obtain ⟨fd, F⟩ := T.f_plain_hands
  refine cal_of F T.g_plain_hands (fn_ok (fun i => [.im (i)]) 2 F sc_plain_hands (fun i => (ent_im ent_nil)) (fun _ => rfl) (fun _ => rfl) fun cdv A outer s H Ex i hr hp => ?_) (fun _ _ _ _ _ _ us hl => match us, hl with | [_], _ => rfl)
  revert i; intro wishes hp
  have hp : wishes.length < 60 ∧ fwOk wishes = true := hp
  refine b_set 1 (e_call (ok_leaders T) hr wishes hp (ea_cons (e_var 0) ea_nil)) ?_ sc_plain_hands.nd
  exact b_ret (e_lcI [("hand", 2)] sc_plain_hands.nd (ei_rng1 T.m_range (e_lenT T.m_len (e_var 0) (by have := hp.1; show wishes.length < _; omega)) (by have := hp.1; show -(2 ^ 62) ≤ (wishes.length : Int) ∧ (wishes.length : Int) < _; omega)) (by rw [rng_len]; have := hp.1; show (wishes.length : Int).toNat < _; omega) (fun s H C cl fp => tgt_name 2 sc_plain_hands.nd) (fun s H C cl fp H0' hs x hx => et_niT (e_var 2) (e_var 1)) (fun s H C cl fp H0' hs x hx ht => E.fresh (e_var 2))) (Same.refl _)
def madeI (t : Int) (wishes : List (Option Int)) : Int := chooseI wishes.length (t + 1) - chooseI (plainH wishes).length (t + 1)
def madeOk (t : Int) (wishes : List (Option Int)) : Prop := wishes.length < 9 ∧ fwOk wishes = true ∧ 0 ≤ t ∧ t < 8 ∧ (plainH wishes).length < 9
theorem ok_made (T : Tx K mg) : Cal P w K mg base 4 "made" ["t", "wishes"] (spG (fun i : Int × ((List (Option Int))) => (.cons i.1 (.cons i.2 .nil))) (fun i => (fun (t : Int) (wishes : (List (Option Int))) => madeOk t wishes) i.1 i.2) fun i => (fun (t : Int) (wishes : (List (Option Int))) => Val (madeI t wishes)) i.1 i.2) := by
  obtain ⟨fd, F⟩ := T.f_made
  refine cal_of F T.g_made (fn_ok (fun i => [.im (i.1), .im (i.2)]) 0 F sc_made (fun i => (ent_im (ent_im ent_nil))) (fun _ => rfl) (fun _ => rfl) fun cdv A outer s H Ex i hr hp => ?_) (fun _ _ _ _ _ _ us hl => match us, hl with | [_, _], _ => rfl)
  obtain ⟨t, wishes⟩ := i
  have hp : madeOk t wishes := hp
  obtain ⟨h1, h2, h3, h4, h5⟩ := hp
  refine b_ret (e_sub (e_call (ok_choose T) hr (wishes.length, t + 1) (by show nk wishes.length (t + 1); unfold nk; omega) (ea_cons (e_lenT T.m_len (e_var 1) (by show wishes.length < _; omega)) (ea_cons (e_add (e_var 0) e_int) ea_nil)))
    (e_call (ok_choose T) hr ((plainH wishes).length, t + 1) (by show nk (plainH wishes).length (t + 1); unfold nk; omega) (ea_cons (e_lenL T.m_len (E.val (e_call (ok_plain_hands T) hr wishes ⟨by omega, h2⟩ (ea_cons (e_var 1) ea_nil)))) (ea_cons (e_add (e_var 0) e_int) ea_nil)))) (Same.refl _)
end
end Lk

/-! LkD3 -/
set_option Elab.async false
set_option linter.all false
set_option maxRecDepth 100000
set_option maxHeartbeats 4000000
set_option autoImplicit false
/-! Equality of lists, sorted tuples; defs of makings and cries. -/
namespace Lk
open PySem PySem.Spec PyProof.Rows L2
open Ty (r)
theorem dpI {K : PySem.W.Frag} {H : Hp} : ∀ {l : List Int} {xs : List V}, A2 l xs H → DpAll K H xs (l.map PyData.int)
  | [], _, .nil => .nil
  | a :: l, _, .cons h t => by
    have h : _ = V.int a := h
    rw [h]
    exact .cons (.int a) (dpI t)
theorem eqvI : ∀ {l m : List Int}, PyData.eqvAll (l.map PyData.int) (m.map PyData.int) = decide (l = m)
  | [], [] => rfl
  | [], _ :: _ => rfl
  | _ :: _, [] => rfl
  | a :: l, b :: m => by
    show (PyData.eqv (.int a) (.int b) && PyData.eqvAll (l.map PyData.int) (m.map PyData.int)) = _
    rw [eqvI]
    show ((a == b) && _) = _
    by_cases h : a = b
    · subst h; simp
    · simp [h]
theorem shI : ∀ {l : List Int}, PyData.canLayAll0 (l.map PyData.int) = true ∧ PyData.depthAll (l.map PyData.int) = 0
  | [] => ⟨rfl, rfl⟩
  | a :: l => ⟨by show (true && _) = true; rw [shI.1]; rfl, by show max 0 (PyData.depthAll (l.map PyData.int)) = 0; rw [shI.2]; rfl⟩
theorem shapedT {l : List Int} : SeqAt.shaped (.tuple (l.map PyData.int)) = true := by
  show (PyData.canLayAll0 _ && decide (PyData.depthAll _ + 1 ≤ 64)) = true
  rw [shI.1, shI.2]; rfl
theorem shapedL {l : List Int} : SeqAt.shaped (.list (l.map PyData.int)) = true := by
  show (PyData.canLayAll0 _ && decide (PyData.depthAll _ + 1 ≤ 64)) = true
  rw [shI.1, shI.2]; rfl
section
variable {X : Cx} {H0 : Hp} {G : List Slot} {a b : Expr} {p pos : Pos} {rest : List Stmt} {D : Ends} {st : Stmt}
theorem et_neT {m : Nat} {l k : List Int} (hr : Room m X.A) (ha : E X H0 G a (Val l)) (hb : E X H0 G b (Val k)) : ET X H0 G (.Compare a [.NotEq] [b] pos) (!decide (l = k)) := et_cmp (x := l) (y := k) (op_neD hr.units) (fun v w H Q ⟨p1, xs, a1, a2, a3⟩ ⟨p2, ys, b1, b2, b3⟩ q =>
  ⟨.tuple (l.map PyData.int), .tuple (k.map PyData.int), by rw [a1]; exact .tup (.inl (.inl a2)) (dpI a3), by rw [b1]; exact .tup (.inl (.inl b2)) (dpI b3), shapedT, shapedT, by show Q (.bl (!PyData.eqvAll _ _)) H; rw [eqvI]; exact q H (Same.refl H)⟩) ha hb
theorem e_eqL {m : Nat} {l k : List Int} (hr : Room m X.A) (ha : E X H0 G a (Val (Lst.mk l))) (hb : E X H0 G b (Val (Lst.mk k))) : E X H0 G (.Compare a [.Eq] [b] pos) (Val (decide (l = k))) := e_cmp (x := Lst.mk l) (y := Lst.mk k) (op_eqD hr.units) (fun v w H Q ⟨p1, xs, a1, a2, a3⟩ ⟨p2, ys, b1, b2, b3⟩ q =>
  ⟨.list (l.map PyData.int), .list (k.map PyData.int), by rw [a1]; exact .lst (.inl (.inl a2)) (dpI (l := l) a3), by rw [b1]; exact .lst (.inl (.inl b2)) (dpI (l := k) b3), shapedL, shapedL, q _ H (Same.refl H) (by show V.bl (PyData.eqvAll _ _) = V.bl _; rw [eqvI])⟩) ha hb
theorem et_eqL {m : Nat} {l k : List Int} (hr : Room m X.A) (ha : E X H0 G a (Val (Lst.mk l))) (hb : E X H0 G b (Val (Lst.mk k))) : ET X H0 G (.Compare a [.Eq] [b] pos) (decide (l = k)) := et_cmp (x := Lst.mk l) (y := Lst.mk k) (op_eqD hr.units) (fun v w H Q ⟨p1, xs, a1, a2, a3⟩ ⟨p2, ys, b1, b2, b3⟩ q =>
  ⟨.list (l.map PyData.int), .list (k.map PyData.int), by rw [a1]; exact .lst (.inl (.inl a2)) (dpI (l := l) a3), by rw [b1]; exact .lst (.inl (.inl b2)) (dpI (l := k) b3), shapedL, shapedL, by show Q (.bl (PyData.eqvAll _ _)) H; rw [eqvI]; exact q H (Same.refl H)⟩) ha hb
theorem et_neL {m : Nat} {l k : List Int} (hr : Room m X.A) (ha : E X H0 G a (Val (Lst.mk l))) (hb : E X H0 G b (Val (Lst.mk k))) : ET X H0 G (.Compare a [.NotEq] [b] pos) (!decide (l = k)) := et_cmp (x := Lst.mk l) (y := Lst.mk k) (op_neD hr.units) (fun v w H Q ⟨p1, xs, a1, a2, a3⟩ ⟨p2, ys, b1, b2, b3⟩ q =>
  ⟨.list (l.map PyData.int), .list (k.map PyData.int), by rw [a1]; exact .lst (.inl (.inl a2)) (dpI (l := l) a3), by rw [b1]; exact .lst (.inl (.inl b2)) (dpI (l := k) b3), shapedL, shapedL, by show Q (.bl (!PyData.eqvAll _ _)) H; rw [eqvI]; exact q H (Same.refl H)⟩) ha hb
/-! ### an owned list is kept as it is from here on -/
theorem At.keepL {σ : L2.St} {H : Hp} {j : Nat} {α : Type} [Im α] {l : List α} (h : At H0 G σ H) (hG : G[j]? = some (.own l)) : ∃ H0', Same H0 H0' ∧ At H0' (G.set j (.old (Lst.mk l))) σ H := by
  obtain ⟨v, e1, q, xs, rfl, e3, e4, e5⟩ := h.get hG (by intro z; cases z)
  let Hn : Hp := fun b => if b = q then H q else match H0 b with
    | some o => some o
    | none => match H b with
      | some (.tup ys) => some (.tup ys)
      | _ => none
  have hq : Hn q = some (.lst xs) := by show (if q = q then H q else _) = _; rw [if_pos rfl]; exact e4
  have h0n : Same H0 Hn := fun b o e => by
    have nb : b ≠ q := fun z => by subst z; rw [e3] at e; cases e
    show (if b = q then H q else match H0 b with | some o => some o | none => match H b with | some (.tup ys) => some (.tup ys) | _ => none) = _
    rw [if_neg nb, e]
  have hnH : Same Hn H := fun b o e => by
    by_cases nb : b = q
    · subst nb
      rw [hq] at e
      rw [e4]; exact e
    · have e : (if b = q then H q else match H0 b with | some o => some o | none => match H b with | some (.tup ys) => some (.tup ys) | _ => none) = some o := e
      rw [if_neg nb] at e
      cases h0b : H0 b with
      | some u => rw [h0b] at e; cases e; exact h.same b _ h0b
      | none =>
        rw [h0b] at e
        cases hb : H b with
        | none => rw [hb] at e; cases e
        | some u =>
          rw [hb] at e
          cases u <;> first
            | (cases e; done)
            | (cases e; rfl)
  have kt : KeepT H Hn := fun b ys e => by
    have nb : b ≠ q := fun z => by subst z; rw [e4] at e; cases e
    show (if b = q then H q else match H0 b with | some o => some o | none => match H b with | some (.tup ys) => some (.tup ys) | _ => none) = _
    rw [if_neg nb]
    cases h0b : H0 b with
    | some u => have := h.same b u h0b; rw [e] at this; cases this; rfl
    | none => simp only [e]
  refine ⟨Hn, h0n, ⟨by rw [List.length_set]; exact h.len, fun i t e => ?_, fun i k t u w e1' e2 o1 o2 q1 q2 => ?_, hnH⟩⟩
  · rw [List.getElem?_set] at e
    by_cases hj : j = i
    · subst hj
      simp only [if_true] at e
      split at e
      · cases e
        exact ⟨some (.ref q), e1, Slot.at_some (s := .old (Lst.mk l)) ⟨q, xs, rfl, hq, A2.keep (l := l) kt e5⟩⟩
      · cases e
    · rw [if_neg hj] at e
      obtain ⟨o', f1, f2⟩ := h.at_ i t e
      refine ⟨o', f1, ?_⟩
      have far : t.isOwn → ∀ p', o' = some (.ref p') → p' ≠ q := fun ot p' ep z => by
        subst z
        exact hj (h.apart j i (.own l) t (.ref p') hG e trivial ot e1 (by rw [f1, ep]))
      have fre : ∀ p', p' ≠ q → H0 p' = none → (∀ ys, H p' ≠ some (.tup ys)) → Hn p' = none := fun p' ne h0 nt => by
        show (if p' = q then H q else match H0 p' with | some o => some o | none => match H p' with | some (.tup ys) => some (.tup ys) | _ => none) = none
        rw [if_neg ne, h0]
        cases hp : H p' with
        | none => rfl
        | some u =>
          cases u <;> first
            | rfl
            | exact absurd hp (nt _)
      cases t with
      | no => trivial
      | @im α _ a => exact f2
      | @old α _ a => obtain ⟨v, ev, r1⟩ := f2; exact ⟨v, ev, Ty.mono (α := α) h0n r1⟩
      | own m => obtain ⟨v, ev, p', ys, q1, q2, q3, q4⟩ := f2; exact ⟨v, ev, p', ys, q1, fre p' (far trivial p' (by rw [ev, q1])) q2 (fun _ z => by rw [q3] at z; cases z), q3, q4⟩
      | ownK m => obtain ⟨v, ev, p', ys, q1, q2, q3, q4⟩ := f2; exact ⟨v, ev, p', ys, q1, fre p' (far trivial p' (by rw [ev, q1])) q2 (fun _ z => by rw [q3] at z; cases z), q3, q4⟩
      | ownT m => obtain ⟨v, ev, p', q1, q2, q3⟩ := f2; exact ⟨v, ev, p', q1, fre p' (far trivial p' (by rw [ev, q1])) q2 (fun _ z => by rw [q3] at z; cases z), q3⟩
  · have ni : j ≠ i := fun z => by
      subst z
      rw [List.getElem?_set] at e1'
      simp only [if_true] at e1'
      split at e1'
      · cases e1'; exact o1
      · cases e1'
    have nk : j ≠ k := fun z => by
      subst z
      rw [List.getElem?_set] at e2
      simp only [if_true] at e2
      split at e2
      · cases e2; exact o2
      · cases e2
    rw [List.getElem?_set_ne ni] at e1'
    rw [List.getElem?_set_ne nk] at e2
    exact h.apart i k t u w e1' e2 o1 o2 q1 q2
theorem b_keep (j : Nat) {α : Type} [Im α] {l : List α} (h : ∀ H0', Same H0 H0' → B X H0' (G.set j (.old (Lst.mk l))) rest D) (hG : G[j]? = some (.own l) := by rfl) : B X H0 G rest D := fun σ H h0 => by
  obtain ⟨H0', s, a⟩ := h0.keepL hG
  exact h H0' s σ H a
/-! ### sorted(list of tuples of ints) -/
def insC (x : List Int) : List (List Int) → List (List Int)
  | [] => [x]
  | y :: l => if TS.code 16 x ≤ TS.code 16 y then x :: y :: l else y :: insC x l
def csort : List (List Int) → List (List Int)
  | [] => []
  | x :: l => insC x (csort l)
theorem insC_perm (x : List Int) : ∀ l : List (List Int), (insC x l).Perm (x :: l)
  | [] => .refl _
  | y :: l => by
    unfold insC
    split
    · exact .refl _
    · exact ((insC_perm x l).cons y).trans (.swap x y l)
theorem csort_perm : ∀ l : List (List Int), (csort l).Perm l
  | [] => .refl _
  | x :: l => (insC_perm x _).trans ((csort_perm l).cons x)
theorem insC_ord (x : List Int) : ∀ l : List (List Int), l.Pairwise (fun a b => TS.code 16 a ≤ TS.code 16 b) → (insC x l).Pairwise (fun a b => TS.code 16 a ≤ TS.code 16 b)
  | [], _ => List.pairwise_singleton _ _
  | y :: l, h => by
    obtain ⟨h1, h2⟩ := List.pairwise_cons.mp h
    unfold insC
    split
    · rename_i hxy
      refine List.pairwise_cons.mpr ⟨fun z hz => ?_, h⟩
      rcases List.mem_cons.mp hz with rfl | hz
      · exact hxy
      · exact Int.le_trans hxy (h1 z hz)
    · rename_i hxy
      refine List.pairwise_cons.mpr ⟨fun z hz => ?_, insC_ord x l h2⟩
      rcases List.mem_cons.mp ((insC_perm x l).mem_iff.mp hz) with rfl | hz
      · omega
      · exact h1 z hz
theorem csort_ord : ∀ l : List (List Int), (csort l).Pairwise (fun a b => TS.code 16 a ≤ TS.code 16 b)
  | [] => .nil
  | x :: l => insC_ord x _ (csort_ord l)
theorem map_inj' {α β : Type} {f : α → β} : ∀ {l m : List α}, (∀ x ∈ l, ∀ y ∈ m, f x = f y → x = y) → l.map f = m.map f → l = m
  | [], [], _, _ => rfl
  | [], _ :: _, _, e => by simp at e
  | _ :: _, [], _, e => by simp at e
  | a :: l, b :: m, h, e => by
    rw [List.map_cons, List.map_cons] at e
    injection e with e1 e2
    rw [h a (by simp) b (by simp) e1, map_inj' (fun x hx y hy => h x (List.mem_cons_of_mem _ hx) y (List.mem_cons_of_mem _ hy)) e2]
theorem csort_eq {l m : List (List Int)} (hi : ∀ x ∈ l, ∀ y ∈ l, TS.code 16 x = TS.code 16 y → x = y) (p : m.Perm l) (h : m.Pairwise (fun a b => TS.code 16 a ≤ TS.code 16 b)) : m = csort l := by
  refine map_inj' (f := TS.code 16) (fun x hx y hy => hi x (p.mem_iff.mp hx) y ((csort_perm l).mem_iff.mp hy)) (sorted_uniq ((p.trans (csort_perm l).symm).map _) ?_ ?_)
  · rw [List.pairwise_map]; exact h
  · rw [List.pairwise_map]; exact csort_ord l
theorem Paired.permR {α β : Type} {F : α → β → Prop} {xs ys : List β} (p : ys.Perm xs) : ∀ {l : List α}, Paired F l xs → ∃ m, m.Perm l ∧ Paired F m ys := by
  induction p with
  | nil => intro l h; exact ⟨l, .refl _, h⟩
  | cons x _ ih =>
    intro l h
    cases h with
    | cons f t =>
      obtain ⟨m, q1, q2⟩ := ih t
      exact ⟨_ :: m, q1.cons _, .cons f q2⟩
  | swap x y l' =>
    intro l h
    cases h with
    | cons f t =>
      cases t with
      | cons g t =>
        exact ⟨_ :: _ :: _, .swap _ _ _, .cons g (.cons f t)⟩
  | trans _ _ ih1 ih2 =>
    intro l h
    obtain ⟨m, q1, q2⟩ := ih2 h
    obtain ⟨n, r1, r2⟩ := ih1 q2
    exact ⟨n, r1.trans q1, r2⟩
theorem e_sortTT {d : Nat} {l : List (List Int)} (hm : X.mg "sorted" = none) (hd : 1 ≤ d) (hl : l.length < 64) (hx : ∀ x ∈ l, x.length = d ∧ ∀ i ∈ x, (0 : Int) ≤ i ∧ i < 16) (hi : ∀ x ∈ l, ∀ y ∈ l, TS.code 16 x = TS.code 16 y → x = y) (ha : E X H0 G a (Val (Lst.mk l))) (hg : Gl X "sorted" := by rfl) (hs : starEach [a] X.env = (false, eval a X.env) :: starEach [] X.env := by rfl) (hpl : (backTo pos (starEach [] X.env)).any (·.1) = false := by rfl) :
    E X H0 G (.Call (.Name "sorted" p) [a] [] pos) (New (Lst.mk (csort l))) := e_callB1 (cr_sortT (B := 16) hd) hm boot_sorted ha (fun v H Q ⟨q, xs, e1, e2, e3⟩ k => by
  have tupI : ∀ {x : List Int} {v : V}, r x v H → TupI X.K H v x := fun {x v} ⟨t, ys, f1, f2, f3⟩ => ⟨t, f1, .inl (.inl (by rw [f2, A2.ints f3]))⟩
  refine ⟨q, xs, by rw [e1], .inl (.inl e2), by rw [← A2.len (l := l) e3]; exact hl, fun v hv => ?_, fun ys m pm pw hm => ?_⟩
  · obtain ⟨i, hi'⟩ := List.getElem?_of_mem hv
    obtain ⟨x, g1, g2⟩ := Paired.get2 e3 hi'
    have := hx x (List.mem_of_getElem? g1)
    exact ⟨x, tupI g2, this.1, fun z hz => this.2 z hz⟩
  · obtain ⟨ms, q1, q2⟩ := Paired.permR pm e3
    have pw' : ∀ {ms : List (List Int)} {ys : List V}, A2 ms ys H → ys.Pairwise (fun x y => ∀ n m, TupI X.K H x n → TupI X.K H y m → TS.code 16 n ≤ TS.code 16 m) → ms.Pairwise (fun a b => TS.code 16 a ≤ TS.code 16 b) := fun {ms ys} h => by
      induction h with
      | nil => intro _; exact .nil
      | cons h1 t ih =>
        intro pw
        rw [List.pairwise_cons] at pw ⊢
        refine ⟨fun z hz => ?_, ih pw.2⟩
        obtain ⟨i, hi'⟩ := List.getElem?_of_mem hz
        obtain ⟨w, g1, g2⟩ := Paired.get1 t hi'
        exact pw.1 w (List.mem_of_getElem? g1) _ _ (tupI h1) (tupI g2)
    have e := csort_eq hi q1 (pw' q2 pw)
    subst e
    exact k _ _ (Same.new hm) ⟨m, _, rfl, cut_new hm upd_same, A2.keep (l := csort l) (keep_cut (Same.new hm)) (A2.mono (l := csort l) (Same.new hm) q2)⟩) hg (by decide) (by decide) hs hpl
/-! ### checked folds -/
def foldOk {γ S : Type} (okf : S → γ → Bool) (f : S → γ → S) : S → List γ → Bool
  | _, [] => true
  | s, x :: l => okf s x && foldOk okf f (f s x) l
theorem foldOk_get {γ S : Type} {okf : S → γ → Bool} {f : S → γ → S} : ∀ {l : List γ} {s : S} {i : Nat} {x : γ}, foldOk okf f s l = true → l[i]? = some x → okf ((l.take i).foldl f s) x = true
  | [], _, _, _, _, e => by simp at e
  | y :: l, s, 0, x, h, e => by
    have e : some y = some x := e
    cases e
    unfold foldOk at h
    exact (Bool.and_eq_true_iff.mp h).1
  | y :: l, s, i + 1, x, h, e => by
    unfold foldOk at h
    show okf ((l.take i).foldl f (f s y)) x = true
    exact foldOk_get (Bool.and_eq_true_iff.mp h).2 (by simpa using e)
theorem atI_last {l : List Int} (h : l ≠ []) : (atI l (-1)).isSome = true := by
  have hl : 0 < l.length := List.length_pos_iff.mpr h
  unfold atI ixN
  rw [if_neg (by decide), if_pos (by omega)]
  show (l[((-1 : Int) + l.length).toNat]?).isSome = true
  rw [List.getElem?_eq_getElem (by omega)]
  rfl
end
section
variable {P : Program} {w : World} {K : PySem.W.Frag} {mg : Str → Option Value} {base : Heap}
/-! ### made_with, next_hand, made_at -/
def mwAll (plain lot : List Int) (hand : Int) : Bool := ((lot ++ [hand]).map fun one => decide (one ∈ plain)).all id
def mwMore (plain : List Int) (hand : Int) : List Int := (plain.filter fun one => decide (hand < one)).map fun one => one
def madeWith (n : Int) (plain lot : List Int) (hand rest : Int) : Int := if mwAll plain lot hand = true then chooseI (n - hand - 1) rest - chooseI (mwMore plain hand).length rest else chooseI (n - hand - 1) rest
def mwOk (n : Int) (plain lot : List Int) (hand rest : Int) : Bool := decide (nk (n - hand - 1) rest) && decide (nk (mwMore plain hand).length rest) && decide (lot.length < 50) && decide (plain.length < 50)
theorem ok_made_with (T : Tx K mg) : Cal P w K mg base 2 "made_with" ["wishes", "plain", "lot", "hand", "rest"] (spG (fun i : ((List (Option Int))) × ((Lst Int)) × ((List Int)) × Int × Int => (.cons i.1 (.cons i.2.1 (.cons i.2.2.1 (.cons i.2.2.2.1 (.cons i.2.2.2.2 .nil)))))) (fun i => (fun (wishes : (List (Option Int))) (plain : (Lst Int)) (lot : (List Int)) (hand : Int) (rest : Int) => wishes.length < 50 ∧ mwOk wishes.length plain.l lot hand rest = true) i.1 i.2.1 i.2.2.1 i.2.2.2.1 i.2.2.2.2) fun i => (fun (wishes : (List (Option Int))) (plain : (Lst Int)) (lot : (List Int)) (hand : Int) (rest : Int) => Val (madeWith wishes.length plain.l lot hand rest)) i.1 i.2.1 i.2.2.1 i.2.2.2.1 i.2.2.2.2) := by
  obtain ⟨fd, F⟩ := T.f_made_with
  refine cal_of F T.g_made_with (fn_ok (fun i => [.im (i.1), .old (i.2.1), .im (i.2.2.1), .im (i.2.2.2.1), .im (i.2.2.2.2)]) 2 F sc_made_with (fun i => (ent_im (ent_old (ent_im (ent_im (ent_im ent_nil)))))) (fun _ => rfl) (fun _ => rfl) fun cdv A outer s H Ex i hr hp => ?_) (fun _ _ _ _ _ _ us hl => match us, hl with | [_, _, _, _, _], _ => rfl)
  obtain ⟨wishes, plain, lot, hand, rest⟩ := i
  have hp : wishes.length < 50 ∧ mwOk wishes.length plain.l lot hand rest = true := hp
  obtain ⟨h0, h1⟩ := hp
  unfold mwOk at h1
  rw [Bool.and_eq_true, Bool.and_eq_true, Bool.and_eq_true, decide_eq_true_eq, decide_eq_true_eq, decide_eq_true_eq, decide_eq_true_eq] at h1
  obtain ⟨⟨⟨h1, h2⟩, h3⟩, h4⟩ := h1
  refine b_set 5 (e_call (ok_choose T) hr (wishes.length - hand - 1, rest) h1 (ea_cons (e_sub (e_sub (e_lenT T.m_len (e_var 0) (by show wishes.length < _; omega)) (e_var 3)) e_int) (ea_cons (e_var 4) ea_nil))) ?_ sc_made_with.nd
  refine b_ifR (et_not (et_val (e_all rfl T.m_all (E.val (e_lc [("one", 6)] sc_made_with.nd (ei_tup (e_catT (by show lot.length + 1 < _; omega) (e_var 2) (e_tup1 (e_var 3)))) (by show (lot ++ [hand]).length < _; rw [List.length_append]; show lot.length + 1 < _; omega) (fun s H C cl fp => tgt_name 6 sc_made_with.nd) (fun s H C cl fp H0' hs x hx => E.fresh (e_inL (e_var 6) (e_old 1).ofOld))))))) (fun h => ?_) fun h => ?_
  · refine b_retV (e_var 5) (Same.refl _) (show _ = madeWith wishes.length plain.l lot hand rest from ?_)
    have h : (!mwAll plain.l lot hand) = true := h
    unfold madeWith
    rw [if_neg (by intro z; rw [z] at h; cases h)]
  · have h : (!mwAll plain.l lot hand) = false := h
    have ha : mwAll plain.l lot hand = true := by revert h; cases mwAll plain.l lot hand <;> simp
    refine b_retV (e_sub (e_var 5) (e_call (ok_choose T) hr ((mwMore plain.l hand).length, rest) h2 (ea_cons (e_lenL T.m_len (E.val (e_lcI [("one", 6)] sc_made_with.nd (ei_old (e_old 1)) (by show plain.l.length < _; omega) (fun s H C cl fp => tgt_name 6 sc_made_with.nd) (fun s H C cl fp H0' hs x hx => et_gt (e_var 6) (e_var 3)) (fun s H C cl fp H0' hs x hx ht => E.fresh (e_var 6))))) (ea_cons (e_var 4) ea_nil)))) (Same.refl _) (show _ = madeWith wishes.length plain.l lot hand rest from ?_)
    unfold madeWith
    rw [if_pos ha]
def nhStart (lot : List Int) : Int := if (!decide (lot = [])) = true then (atI lot (-1)).getD 0 + 1 else 0
def nhC (s : Int × Int × Int) : Bool := decide (s.2.2 ≤ s.1)
def nhF (n : Int) (plain lot : List Int) (rest : Int) (s : Int × Int × Int) : Int × Int × Int := (s.1 - s.2.2, s.2.1 + 1, madeWith n plain lot (s.2.1 + 1) rest)
def nhO (n : Int) (plain lot : List Int) (rest : Int) (s : Int × Int × Int) : Bool := !nhC s || mwOk n plain lot (s.2.1 + 1) rest
def nextHand (n : Int) (plain lot : List Int) (number rest : Int) : Int × Int :=
  let s := wl nhC (nhF n plain lot rest) 9 (number, nhStart lot, madeWith n plain lot (nhStart lot) rest)
  (s.2.1, s.1)
def nextOk (n : Int) (plain lot : List Int) (number rest : Int) : Bool := mwOk n plain lot (nhStart lot) rest && wlOk nhC (nhF n plain lot rest) (nhO n plain lot rest) 9 (number, nhStart lot, madeWith n plain lot (nhStart lot) rest)
theorem ok_next_hand (T : Tx K mg) : Cal P w K mg base 3 "next_hand" ["wishes", "plain", "lot", "number", "rest"] (spG (fun i : ((List (Option Int))) × ((Lst Int)) × ((List Int)) × Int × Int => (.cons i.1 (.cons i.2.1 (.cons i.2.2.1 (.cons i.2.2.2.1 (.cons i.2.2.2.2 .nil)))))) (fun i => (fun (wishes : (List (Option Int))) (plain : (Lst Int)) (lot : (List Int)) (number : Int) (rest : Int) => wishes.length < 50 ∧ nextOk wishes.length plain.l lot number rest = true) i.1 i.2.1 i.2.2.1 i.2.2.2.1 i.2.2.2.2) fun i => (fun (wishes : (List (Option Int))) (plain : (Lst Int)) (lot : (List Int)) (number : Int) (rest : Int) => Val (nextHand wishes.length plain.l lot number rest)) i.1 i.2.1 i.2.2.1 i.2.2.2.1 i.2.2.2.2) := by
  obtain ⟨fd, F⟩ := T.f_next_hand
  refine cal_of F T.g_next_hand (fn_ok (fun i => [.im (i.1), .old (i.2.1), .im (i.2.2.1), .im (i.2.2.2.1), .im (i.2.2.2.2)]) 2 F sc_next_hand (fun i => (ent_im (ent_old (ent_im (ent_im (ent_im ent_nil)))))) (fun _ => rfl) (fun _ => rfl) fun cdv A outer s H Ex i hr hp => ?_) (fun _ _ _ _ _ _ us hl => match us, hl with | [_, _, _, _, _], _ => rfl)
  obtain ⟨wishes, plain, lot, number, rest⟩ := i
  have hp : wishes.length < 50 ∧ nextOk wishes.length plain.l lot number rest = true := hp
  obtain ⟨h0, h1⟩ := hp
  unfold nextOk at h1
  obtain ⟨h1, h2⟩ := Bool.and_eq_true_iff.mp h1
  refine b_set 5 (e_ite (u := (atI lot (-1)).getD 0 + 1) (v := 0) (et_neT hr (e_var 2) e_tup0) (fun h => e_add (e_ixT (some_getD (atI_last ?_)) (e_var 2) (e_neg e_int)) e_int) fun _ => e_int) ?_ sc_next_hand.nd
  · intro z
    have z : lot = [] := z
    rw [z] at h
    cases h
  refine b_set 6 (e_call (ok_made_with T) hr (wishes, plain, lot, nhStart lot, rest) ⟨h0, h1⟩ (ea_cons (e_var 0) (ea_cons (e_old 1).ofOld (ea_cons (e_var 2) (ea_cons (e_var 5) (ea_cons (e_var 4) ea_nil)))))) ?_ sc_next_hand.nd
  refine b_whileC nhC (nhF wishes.length plain.l lot rest) (nhO wishes.length plain.l lot rest) (fun s => [.im wishes, .old plain, .im lot, .im s.1, .im rest, .im s.2.1, .im s.2.2]) 9 (number, nhStart lot, madeWith wishes.length plain.l lot (nhStart lot) rest) h2 (Sub.of []) (fun H0' hs s _ => et_ge (e_var 3) (e_var 6)) (fun H0' hs s ho hc => ?_) (fun H0' hs => ?_) nox_own
  · unfold nhO at ho
    rw [hc] at ho
    exact b_aug ip_sub 3 (e_var 6) (b_aug ip_add 5 e_int (b_set 6 (e_call (ok_made_with T) hr (wishes, plain, lot, s.2.1 + 1, rest) ⟨h0, ho⟩ (ea_cons (e_var 0) (ea_cons (e_old 1).ofOld (ea_cons (e_var 2) (ea_cons (e_var 5) (ea_cons (e_var 4) ea_nil)))))) (b_e [] (Same.refl _)) sc_next_hand.nd) sc_next_hand.nd) sc_next_hand.nd
  · exact b_ret (e_tup2 (e_var 5) (e_var 3)) hs
def maF (n : Int) (plain : List Int) (s : Int × List Int) (rest : Int) : Int × List Int := ((nextHand n plain s.2 s.1 rest).2, s.2 ++ [(nextHand n plain s.2 s.1 rest).1])
def madeAt (t : Int) (wishes : List (Option Int)) (number : Int) : List Int := ((rngD t (t - -1).toNat).foldl (maF wishes.length (plainH wishes)) (number, [])).2
def madeAtOk (t : Int) (wishes : List (Option Int)) (number : Int) : Bool := decide (0 ≤ number) && decide (number < madeI t wishes) && foldOk (fun s rest => nextOk wishes.length (plainH wishes) s.2 s.1 rest) (maF wishes.length (plainH wishes)) (number, []) (rngD t (t - -1).toNat)
theorem ma_len {n : Int} {plain : List Int} : ∀ (l : List Int) (s : Int × List Int), (l.foldl (maF n plain) s).2.length = s.2.length + l.length
  | [], s => by simp
  | x :: l, s => by
    show (l.foldl (maF n plain) (maF n plain s x)).2.length = _
    rw [ma_len l]
    show (s.2 ++ [_]).length + l.length = s.2.length + (l.length + 1)
    rw [List.length_append]
    show s.2.length + 1 + l.length = _
    omega
theorem ok_made_at (T : Tx K mg) : Cal P w K mg base 5 "made_at" ["t", "wishes", "number"] (spG (fun i : Int × ((List (Option Int))) × Int => (.cons i.1 (.cons i.2.1 (.cons i.2.2 .nil)))) (fun i => (fun (t : Int) (wishes : (List (Option Int))) (number : Int) => madeOk t wishes ∧ madeAtOk t wishes number = true) i.1 i.2.1 i.2.2) fun i => (fun (t : Int) (wishes : (List (Option Int))) (number : Int) => Val (madeAt t wishes number)) i.1 i.2.1 i.2.2) := by
  obtain ⟨fd, F⟩ := T.f_made_at
  refine cal_of F T.g_made_at (fn_ok (fun i => [.im (i.1), .im (i.2.1), .im (i.2.2)]) 4 F sc_made_at (fun i => (ent_im (ent_im (ent_im ent_nil)))) (fun _ => rfl) (fun _ => rfl) fun cdv A outer s H Ex i hr hp => ?_) (fun _ _ _ _ _ _ us hl => match us, hl with | [_, _, _], _ => rfl)
  obtain ⟨t, wishes, number⟩ := i
  have hp : madeOk t wishes ∧ madeAtOk t wishes number = true := hp
  obtain ⟨h0, h1⟩ := hp
  unfold madeAtOk at h1
  obtain ⟨h1, h2⟩ := Bool.and_eq_true_iff.mp h1
  obtain ⟨h1, h3⟩ := Bool.and_eq_true_iff.mp h1
  have h1 := of_decide_eq_true h1
  have h3 := of_decide_eq_true h3
  have hw : wishes.length < 9 := h0.1
  have ht : 0 ≤ t ∧ t < 8 := ⟨h0.2.2.1, h0.2.2.2.1⟩
  refine b_ifN (et_w (ew_or (et_not (et_val (e_call (ok_is_number T) hr number trivial (ea_cons (e_var 2) ea_nil)))) fun _ => ew_or1 (et_ge (e_var 2) (e_call (ok_made T) hr (t, wishes) h0 (ea_cons (e_var 0) (ea_cons (e_var 1) ea_nil)))))) (by rw [decide_eq_true h1, decide_eq_false (Int.not_le.mpr h3)]; rfl) ?_
  refine b_parIO (par_l 3 4 rfl sc_made_at.nd) (e_tup0 (α := Int)) (e_call (ok_plain_hands T) hr wishes ⟨by omega, h0.2.1⟩ (ea_cons (e_var 1) ea_nil)) ?_
  refine b_keep 4 fun H1 hs1 => ?_
  refine b_forF (fun s : Int × List Int => [.im t, .im wishes, .im s.1, .im s.2, .old (Lst.mk (plainH wishes)), .no, .no]) (maF wishes.length (plainH wishes)) (number, []) (ei_rngD T.m_range (e_var 0) (e_neg e_int) (e_neg e_int) (by show -(2 ^ 62) ≤ t ∧ t < 2 ^ 62 ∧ _; omega)) (tgt_name 5 sc_made_at.nd) (Sub.of []) (fun H0' hs i x s e es => ?_) (fun H0' hs => ?_) nox_own
  · have hk := foldOk_get h2 e
    rw [← es] at hk
    refine b_setPair (e_call (ok_next_hand T) hr (wishes, ⟨plainH wishes⟩, s.2, s.1, x) ⟨by show wishes.length < 50; omega, hk⟩ (ea_cons (e_var 1) (ea_cons (e_old 4).ofOld (ea_cons (e_var 3) (ea_cons (e_var 2) (ea_cons (e_var 5) ea_nil)))))) ?_ rfl sc_made_at.nd (i := 6) (j := 2)
    refine b_set 3 (e_catT ?_ (e_var 3) (e_tup1 (e_var 6))) (b_e [5, 6] (Same.refl _)) sc_made_at.nd
    rw [es, ma_len]
    have : ((rngD t (t - -1).toNat).take i).length ≤ (rngD t (t - -1).toNat).length := by rw [List.length_take]; omega
    have h5 : (rngD t (t - -1).toNat).length = (t - -1).toNat := by simp [rngD]
    show 0 + ((rngD t (t - -1).toNat).take i).length + 1 < 1000000
    omega
  · exact b_ret (e_var 3) (Same.trans hs1 hs)
end
end Lk

/-! LkD4 -/
set_option Elab.async false
set_option linter.all false
set_option maxRecDepth 100000
set_option maxHeartbeats 4000000
set_option autoImplicit false
/-! Defs of cries, files, losses, shelves. -/
namespace Lk
open PySem PySem.Spec PyProof.Rows L2
open Ty (r)
section
variable {X : Cx} {H0 He : Hp} {G : List Slot} {e a b : Expr} {p pos : Pos} {rest : List Stmt} {D : Ends}
theorem E.toSome {α : Type} [Im α] {u : α} (h : E X H0 G e (Val u)) : E X H0 G e (Val (Option.some u)) := h
/-- an owned thing is returned: it is new for the caller -/
theorem b_retOwn (j : Nat) {α : Type} [Im α] {l : List α} {n : Str} (hs : Same He H0) (hG : G[j]? = some (.own l) := by rfl) (hN : X.N[j]? = some n := by rfl) (hD : D.rt = (endsOf (New (Lst.mk l)) He).rt := by rfl) (hv : Vis X.env.scope n := by first | exact Or.inl rfl | exact Or.inr (Or.inl rfl) | exact Or.inr (Or.inr rfl))
    (hd : (n == ("__debug__" : Str)) = false := by decide) (hcd : (n == ("__classdict__" : Str)) = false := by decide) : B X H0 G (.Return (some (.Name n p)) pos :: rest) D := B.seq fun σ H h0 => ps_out (ps_ret (pe_var hN hv hd hcd)) (by
  obtain ⟨v, e1, q, xs, rfl, e3, e4, e5⟩ := h0.get hG (by intro z; cases z)
  refine ⟨_, e1, ?_⟩
  show D.rt _ H
  rw [hD]
  have sh := Same.trans hs h0.same
  exact ⟨sh, q, xs, rfl, cut_new (Same.free hs e3) e4, A2.keep (l := l) (keep_cut sh) e5⟩)
theorem b_retOwnT (j : Nat) {l : List ((Int × Int) × Int)} {n : Str} (hs : Same He H0) (hG : G[j]? = some (.ownT l) := by rfl) (hN : X.N[j]? = some n := by rfl) (hD : D.rt = (endsOf (New (DiT.mk l)) He).rt := by rfl) (hv : Vis X.env.scope n := by first | exact Or.inl rfl | exact Or.inr (Or.inl rfl) | exact Or.inr (Or.inr rfl))
    (hd : (n == ("__debug__" : Str)) = false := by decide) (hcd : (n == ("__classdict__" : Str)) = false := by decide) : B X H0 G (.Return (some (.Name n p)) pos :: rest) D := B.seq fun σ H h0 => ps_out (ps_ret (pe_var hN hv hd hcd)) (by
  obtain ⟨v, e1, q, rfl, e3, e4⟩ := h0.get hG (by intro z; cases z)
  refine ⟨_, e1, ?_⟩
  show D.rt _ H
  rw [hD]
  have sh := Same.trans hs h0.same
  exact ⟨sh, q, rfl, cut_new (Same.free hs e3) e4⟩)
end
section
variable {P : Program} {w : World} {K : PySem.W.Frag} {mg : Str → Option Value} {base : Heap}
/-! ### terms, cry -/
def wishOf (wishes : List (Option Int)) (h : Int) : Option Int := (atI wishes h).getD none
def termsI (wishes : List (Option Int)) (lot : List Int) : List (T3 Int Int (List Int)) := (lot.filter fun h => !(wishOf wishes h).isNone).map fun h => ⟨sgn h lot, (wishOf wishes h).getD 0, withoutI lot h⟩
def tOk (wishes : List (Option Int)) (lot : List Int) : Bool := decide (lot.length < 50) && lot.all fun h => (atI wishes h).isSome
theorem ok_terms (T : Tx K mg) : Cal P w K mg base 3 "terms" ["wishes", "lot"] (spG (fun i : ((List (Option Int))) × ((List Int)) => (.cons i.1 (.cons i.2 .nil))) (fun i => (fun (wishes : (List (Option Int))) (lot : (List Int)) => tOk wishes lot = true) i.1 i.2) fun i => (fun (wishes : (List (Option Int))) (lot : (List Int)) => Val (termsI wishes lot)) i.1 i.2) := by
  obtain ⟨fd, F⟩ := T.f_terms
  refine cal_of F T.g_terms (fn_ok (fun i => [.im (i.1), .im (i.2)]) 1 F sc_terms (fun i => (ent_im (ent_im ent_nil))) (fun _ => rfl) (fun _ => rfl) fun cdv A outer s H Ex i hr hp => ?_) (fun _ _ _ _ _ _ us hl => match us, hl with | [_, _], _ => rfl)
  obtain ⟨wishes, lot⟩ := i
  have hp : tOk wishes lot = true := hp
  unfold tOk at hp
  obtain ⟨h1, h2⟩ := Bool.and_eq_true_iff.mp hp
  have h1 := of_decide_eq_true h1
  rw [List.all_eq_true] at h2
  refine b_ret (e_tupL T.m_tuple (E.val (e_lcI [("hand", 2)] sc_terms.nd (ei_tup (e_var 1)) (by show lot.length < _; omega) (fun s H C cl fp => tgt_name 2 sc_terms.nd) (fun s H C cl fp H0' hs x hx => et_notN (e_ixT (some_getD (d := none) (h2 x hx)) (e_var 0) (e_var 2))) (fun s H C cl fp H0' hs x hx ht => E.fresh (e_tup3 (e_call (ok_sign T) hr (x, lot) (by show lot.length < _; omega) (ea_cons (e_var 2) (ea_cons (e_var 1) ea_nil))) (E.some (u := (wishOf wishes x).getD 0) ?_) (e_call (ok_without T) hr (lot, x) (by show lot.length < _; omega) (ea_cons (e_var 1) (ea_cons (e_var 2) ea_nil)))))))) (Same.refl _)
  refine e_ixT ?_ (e_var 0) (e_var 2)
  have e1 := some_getD (d := none) (h2 x hx)
  rw [e1]
  have ht : (!(wishOf wishes x).isNone) = true := ht
  show some (wishOf wishes x) = some (some ((wishOf wishes x).getD 0))
  revert ht
  cases wishOf wishes x with
  | none => intro z; cases z
  | some u => intro _; rfl
def pieceI (n : Int) (file lot : List Int) : Int := (atI file (numberOf n lot)).getD 0
def lotIn (lot : List Int) : Bool := decide (lot.length ≤ 6) && lot.all fun e => decide (0 ≤ e ∧ e ≤ 6)
theorem lotIn_ok {lot : List Int} (h : lotIn lot = true) : lot.length ≤ 6 ∧ ∀ e ∈ lot, (0 : Int) ≤ e ∧ e ≤ 6 := by
  unfold lotIn at h
  obtain ⟨h1, h2⟩ := Bool.and_eq_true_iff.mp h
  rw [List.all_eq_true] at h2
  exact ⟨of_decide_eq_true h1, fun e he => of_decide_eq_true (h2 e he)⟩
def cryI (p : Int) (files : List (Int × List Int)) (wishes : List (Option Int)) (lot : List Int) : Int := ((termsI wishes lot).map fun e => e.a * pieceI wishes.length ((dget files e.b).getD []) e.c).sum % p
structure CryOk (p : Int) (files : List (Int × List Int)) (wishes : List (Option Int)) (lot : List Int) : Prop where
  p0 : 0 < p
  wl : wishes.length ≤ 6
  tm : tOk wishes lot = true
  ts : ∀ e ∈ termsI wishes lot, (dget files e.b).isSome = true ∧ lotIn e.c = true ∧ (atI ((dget files e.b).getD []) (numberOf wishes.length e.c)).isSome = true ∧ -2 ≤ e.a ∧ e.a ≤ 2
  tl : (termsI wishes lot).length < 100
theorem ok_cry (T : Tx K mg) : Cal P w K mg base 4 "cry" ["p", "files", "wishes", "lot"] (spG (fun i : Int × ((Dic (List Int))) × ((List (Option Int))) × ((List Int)) => (.cons i.1 (.cons i.2.1 (.cons i.2.2.1 (.cons i.2.2.2 .nil))))) (fun i => (fun (p : Int) (files : (Dic (List Int))) (wishes : (List (Option Int))) (lot : (List Int)) => CryOk p files.l wishes lot) i.1 i.2.1 i.2.2.1 i.2.2.2) fun i => (fun (p : Int) (files : (Dic (List Int))) (wishes : (List (Option Int))) (lot : (List Int)) => Val (cryI p files.l wishes lot)) i.1 i.2.1 i.2.2.1 i.2.2.2) := by
  obtain ⟨fd, F⟩ := T.f_cry
  refine cal_of F T.g_cry (fn_ok (fun i => [.im (i.1), .old (i.2.1), .im (i.2.2.1), .im (i.2.2.2)]) 4 F sc_cry (fun i => (ent_im (ent_old (ent_im (ent_im ent_nil))))) (fun _ => rfl) (fun _ => rfl) fun cdv A outer s H Ex i hr hp => ?_) (fun _ _ _ _ _ _ us hl => match us, hl with | [_, _, _, _], _ => rfl)
  obtain ⟨p, files, wishes, lot⟩ := i
  have hp : CryOk p files.l wishes lot := hp
  refine b_lc 4 [("turn", 5), ("number", 6), ("rest", 7)] sc_cry.nd (ei_tup (e_call (ok_terms T) hr (wishes, lot) hp.tm (ea_cons (e_var 2) (ea_cons (e_var 3) ea_nil)))) (by have := hp.tl; show (termsI wishes lot).length < _; omega) (fun s H C cl fp => tgt_3 5 6 7 rfl sc_cry.nd) (fun s H C cl fp H0' hs x hx => E.fresh (e_mul ?_ (e_var 5) (e_call (ok_piece T) hr (wishes.length, (dget files.l x.b).getD [], x.c) ⟨⟨?_, ?_, (lotIn_ok (hp.ts x hx).2.1).1, (lotIn_ok (hp.ts x hx).2.1).2⟩, (hp.ts x hx).2.2.1⟩ (ea_cons (e_lenT T.m_len (e_var 2) ?_) (ea_cons (e_getK hr (some_getD (hp.ts x hx).1) (e_old 1).ofOld (e_var 6)) (ea_cons (e_var 7) ea_nil)))))) ?_
  · have := (hp.ts x hx).2.2.2
    unfold CMul
    refine .inl ?_
    show -(2 ^ 64) < x.a ∧ x.a < 2 ^ 64
    omega
  · show (0 : Int) ≤ (wishes.length : Int); omega
  · have := hp.wl; show (wishes.length : Int) ≤ 6; omega
  · have := hp.wl; show wishes.length < _; omega
  · exact b_ret (e_mod hp.p0 (e_sum rfl T.m_sum (e_own 4)) (e_var 0)) (Same.refl _)
/-! ### made_lots, cries -/
def mlRest (rest : List Int) (leader : Int) : List Int := (rest.filter fun hand => !decide (hand = leader)).map fun hand => hand
def mlLot (rest : List Int) (leader : Int) (lot : List Int) : List Int := withHand (lot.map fun at' => (atI rest at').getD 0) leader
def mlF (t : Int) (s : List Int × List (List Int)) (leader : Int) : List Int × List (List Int) := (mlRest s.1 leader, s.2 ++ (lotsI (mlRest s.1 leader).length t).map fun lot => mlLot (mlRest s.1 leader) leader lot)
def mlO (t : Int) (s : List Int × List (List Int)) (leader : Int) : Bool := decide (s.1.length < 9) && lotsOk (mlRest s.1 leader).length t && decide (s.2.length < 1000) && decide ((lotsI (mlRest s.1 leader).length t).length < 1000) && (lotsI (mlRest s.1 leader).length t).all fun lot => decide (lot.length < 9) && lot.all fun at' => (atI (mlRest s.1 leader) at').isSome
def mlS (t : Int) (wishes : List (Option Int)) : List Int × List (List Int) := (leadersI wishes).foldl (mlF t) (rng 0 wishes.length, [])
def madeLots (t : Int) (wishes : List (Option Int)) : List (List Int) := csort (mlS t wishes).2
def mlOk (t : Int) (wishes : List (Option Int)) : Bool := decide (wishes.length < 9) && fwOk wishes && foldOk (mlO t) (mlF t) (rng 0 wishes.length, []) (leadersI wishes) && decide (0 ≤ t) && decide ((mlS t wishes).2.length < 64) && ((mlS t wishes).2.all fun x => decide (x.length = (t + 1).toNat) && x.all fun i => decide (0 ≤ i ∧ i < 16)) && ((mlS t wishes).2.all fun x => (mlS t wishes).2.all fun y => !decide (TS.code 16 x = TS.code 16 y) || decide (x = y))
theorem ok_made_lots (T : Tx K mg) : Cal P w K mg base 4 "made_lots" ["t", "wishes"] (spG (fun i : Int × ((List (Option Int))) => (.cons i.1 (.cons i.2 .nil))) (fun i => (fun (t : Int) (wishes : (List (Option Int))) => mlOk t wishes = true) i.1 i.2) fun i => (fun (t : Int) (wishes : (List (Option Int))) => New (Lst.mk (madeLots t wishes))) i.1 i.2) := by
  obtain ⟨fd, F⟩ := T.f_made_lots
  refine cal_of F T.g_made_lots (fn_ok (fun i => [.im (i.1), .im (i.2)]) 6 F sc_made_lots (fun i => (ent_im (ent_im ent_nil))) (fun _ => rfl) (fun _ => rfl) fun cdv A outer s H Ex i hr hp => ?_) (fun _ _ _ _ _ _ us hl => match us, hl with | [_, _], _ => rfl)
  obtain ⟨t, wishes⟩ := i
  have hp : mlOk t wishes = true := hp
  unfold mlOk at hp
  obtain ⟨hp, h7⟩ := Bool.and_eq_true_iff.mp hp
  obtain ⟨hp, h6⟩ := Bool.and_eq_true_iff.mp hp
  obtain ⟨hp, h5⟩ := Bool.and_eq_true_iff.mp hp
  obtain ⟨hp, h4⟩ := Bool.and_eq_true_iff.mp hp
  obtain ⟨hp, h3⟩ := Bool.and_eq_true_iff.mp hp
  obtain ⟨h1, h2⟩ := Bool.and_eq_true_iff.mp hp
  have h1 := of_decide_eq_true h1
  have h4 := of_decide_eq_true h4
  have h5 := of_decide_eq_true h5
  rw [List.all_eq_true] at h6 h7
  refine b_parSO (par_c 2 3 rfl sc_made_lots.nd) (e_listRg rfl T.m_list T.m_range (e_lenT T.m_len (e_var 1) (by show wishes.length < _; omega)) (by show 0 ≤ (wishes.length : Int) ∧ (wishes.length : Int) < _; omega)) (fun _ _ => e_lst0 (α := List Int)) (fun H1 hs1 => ?_)
  refine b_forF (fun s : List Int × List (List Int) => [.im t, .im wishes, .old (Lst.mk s.1), .own s.2, .no, .no, .no, .no]) (mlF t) (rng 0 wishes.length, []) (ei_tup (e_call (ok_leaders T) hr wishes ⟨by omega, h2⟩ (ea_cons (e_var 1) ea_nil))) (tgt_name 4 sc_made_lots.nd) (Sub.of []) (fun H0' hs i x s e es => ?_) (fun H0' hs => ?_) nox_own
  · have hk := foldOk_get h3 e
    rw [← es] at hk
    unfold mlO at hk
    obtain ⟨hk, k5⟩ := Bool.and_eq_true_iff.mp hk
    obtain ⟨hk, k4⟩ := Bool.and_eq_true_iff.mp hk
    obtain ⟨hk, k3⟩ := Bool.and_eq_true_iff.mp hk
    obtain ⟨k1, k2⟩ := Bool.and_eq_true_iff.mp hk
    have k1 := of_decide_eq_true k1
    have k3 := of_decide_eq_true k3
    have k4 := of_decide_eq_true k4
    rw [List.all_eq_true] at k5
    refine b_setNew 2 (e_lcI [("hand", 5)] sc_made_lots.nd (ei_old (e_old 2)) (by show s.1.length < _; omega) (fun s H C cl fp => tgt_name 5 sc_made_lots.nd) (fun s H C cl fp H0' hs x hx => et_ne (e_var 5) (e_var 4)) (fun s H C cl fp H0' hs x hx ht => E.fresh (e_var 5))) (fun H2 hs2 => ?_) sc_made_lots.nd
    refine b_extend 3 (e_lc [("lot", 7)] sc_made_lots.nd (ei_tup (e_call (ok_lots T) hr ((mlRest s.1 x).length, t) k2 (ea_cons (e_lenL T.m_len (e_old 2).ofOld) (ea_cons (e_var 0) ea_nil)))) (by show (lotsI (mlRest s.1 x).length t).length < _; omega) (fun s H C cl fp => tgt_name 7 sc_made_lots.nd) (fun s' H C cl fp H0' hs3 lot hlot => E.fresh (e_call (ok_with_hand T) hr (lot.map fun at' => (atI (mlRest s.1 x) at').getD 0, x) ?_ (ea_cons (e_tupL T.m_tuple (E.val (e_lc [("at", 6)] sc_made_lots.nd (ei_tup (e_var 7)) ?_ (fun s H C cl fp => tgt_name 6 sc_made_lots.nd) (fun s H C cl fp H0' hs at' hat => E.fresh (e_ixL (some_getD ?_) (e_old 2).ofOld (e_var 6)))))) (ea_cons (e_var 4) ea_nil))))) (b_e [4] hs2) ?_
    · have := of_decide_eq_true (Bool.and_eq_true_iff.mp (k5 lot hlot)).1
      show (lot.map _).length < 50
      rw [List.length_map]; omega
    · have := of_decide_eq_true (Bool.and_eq_true_iff.mp (k5 lot hlot)).1
      show lot.length < _
      omega
    · have := (Bool.and_eq_true_iff.mp (k5 lot hlot)).2
      rw [List.all_eq_true] at this
      exact this at' hat
    · show s.2.length + ((lotsI (mlRest s.1 x).length t).map _).length < _
      rw [List.length_map]; omega
  · refine b_ret ((e_sortTT (d := (t + 1).toNat) T.m_sorted (by show 1 ≤ (t + 1).toNat; omega) h5 (fun x hx => ?_) (fun x hx y hy hxy => ?_) (e_own 3))) (Same.trans hs1 hs)
    · obtain ⟨g1, g2⟩ := Bool.and_eq_true_iff.mp (h6 x hx)
      rw [List.all_eq_true] at g2
      exact ⟨of_decide_eq_true g1, fun i hi => of_decide_eq_true (g2 i hi)⟩
    · have := h7 x hx
      rw [List.all_eq_true] at this
      have := this y hy
      rw [decide_eq_true hxy] at this
      exact of_decide_eq_true this
def criesI (p t : Int) (files : List (Int × List Int)) (wishes : List (Option Int)) : List Int := (madeLots t wishes).map fun lot => cryI p files wishes lot
theorem ok_cries (T : Tx K mg) : Cal P w K mg base 5 "cries" ["p", "t", "files", "wishes"] (spG (fun i : Int × Int × ((Dic (List Int))) × ((List (Option Int))) => (.cons i.1 (.cons i.2.1 (.cons i.2.2.1 (.cons i.2.2.2 .nil))))) (fun i => (fun (p : Int) (t : Int) (files : (Dic (List Int))) (wishes : (List (Option Int))) => madeOk t wishes ∧ madeI t wishes < 100 ∧ mlOk t wishes = true ∧ (madeLots t wishes).length < 1000 ∧ ∀ lot ∈ madeLots t wishes, CryOk p files.l wishes lot) i.1 i.2.1 i.2.2.1 i.2.2.2) fun i => (fun (p : Int) (t : Int) (files : (Dic (List Int))) (wishes : (List (Option Int))) => Val (criesI p t files.l wishes)) i.1 i.2.1 i.2.2.1 i.2.2.2) := by
  obtain ⟨fd, F⟩ := T.f_cries
  refine cal_of F T.g_cries (fn_ok (fun i => [.im (i.1), .im (i.2.1), .old (i.2.2.1), .im (i.2.2.2)]) 2 F sc_cries (fun i => (ent_im (ent_im (ent_old (ent_im ent_nil))))) (fun _ => rfl) (fun _ => rfl) fun cdv A outer s H Ex i hr hp => ?_) (fun _ _ _ _ _ _ us hl => match us, hl with | [_, _, _, _], _ => rfl)
  obtain ⟨p, t, files, wishes⟩ := i
  have hp : madeOk t wishes ∧ madeI t wishes < 100 ∧ mlOk t wishes = true ∧ (madeLots t wishes).length < 1000 ∧ ∀ lot ∈ madeLots t wishes, CryOk p files.l wishes lot := hp
  obtain ⟨h1, h2, h3, h4, h5⟩ := hp
  refine b_set 4 (e_call (ok_made T) hr (t, wishes) h1 (ea_cons (e_var 1) (ea_cons (e_var 3) ea_nil))) ?_ sc_cries.nd
  refine b_ifN (et_gt (e_var 4) (e_glob T.n_MOST_MADE)) (decide_eq_false (by show ¬ (2000 : Int) < madeI t wishes; omega)) ?_
  exact b_ret (e_tupL T.m_tuple (E.val (e_lc [("lot", 5)] sc_cries.nd (ei_new (e_call (ok_made_lots T) hr (t, wishes) h3 (ea_cons (e_var 1) (ea_cons (e_var 3) ea_nil)))) (by show (madeLots t wishes).length < _; omega) (fun s H C cl fp => tgt_name 5 sc_cries.nd) (fun s H C cl fp H0' hs lot hl => E.fresh (e_call (ok_cry T) hr (p, files, wishes, lot) (h5 lot hl) (ea_cons (e_var 0) (ea_cons (e_old 2).ofOld (ea_cons (e_var 3) (ea_cons (e_var 5) ea_nil))))))))) (Same.refl _)
end
end Lk

/-! LkD5 -/
set_option Elab.async false
set_option linter.all false
set_option maxRecDepth 100000
set_option maxHeartbeats 4000000
set_option autoImplicit false
/-! Defs of files, losses, shelves. -/
namespace Lk
open PySem PySem.Spec PyProof.Rows L2
open Ty (r)
section
variable {P : Program} {w : World} {K : PySem.W.Frag} {mg : Str → Option Value} {base : Heap}
/-! ### is_prime -/
def prC (n by' : Int) : Bool := decide (by' * by' ≤ n)
def prF (by' : Int) : Int := by' + (1 + by' % 2)
def prO (n by' : Int) : Bool := decide (0 < by' ∧ by' < 1000000) && (!prC n by' || !decide (n % by' = 0))
theorem ok_is_prime (T : Tx K mg) : Cal P w K mg base 1 "is_prime" ["n"] (spG (fun i : Int => (.cons i .nil)) (fun i => (fun (n : Int) => 2 ≤ n ∧ ∃ f, wlOk (prC n) prF (prO n) f 2 = true) i) fun i => (fun (n : Int) => Val true) i) := by
  obtain ⟨fd, F⟩ := T.f_is_prime
  refine cal_of F T.g_is_prime (fn_ok (fun i => [.im (i)]) 1 F sc_is_prime (fun i => (ent_im ent_nil)) (fun _ => rfl) (fun _ => rfl) fun cdv A outer s H Ex i hr hp => ?_) (fun _ _ _ _ _ _ us hl => match us, hl with | [_], _ => rfl)
  revert i; intro n hp
  have hp : 2 ≤ n ∧ ∃ f, wlOk (prC n) prF (prO n) f 2 = true := hp
  obtain ⟨h1, f, h2⟩ := hp
  refine b_ifN (et_lt (e_var 0) e_int) (decide_eq_false (by omega)) ?_
  refine b_set 1 e_int ?_ sc_is_prime.nd
  refine b_whileC (prC n) prF (prO n) (fun b => [.im n, .im b]) f 2 h2 (Sub.of []) (fun H0' hs b ho => et_le (e_mul ?_ (e_var 1) (e_var 1)) (e_var 0)) (fun H0' hs b ho hc => ?_) (fun H0' hs => ?_) nox_own
  · unfold prO at ho
    have ho := of_decide_eq_true (Bool.and_eq_true_iff.mp ho).1
    unfold CMul; exact .inl (by omega)
  · unfold prO at ho
    rw [hc] at ho
    obtain ⟨h3, h4⟩ := Bool.and_eq_true_iff.mp ho
    have h3 := of_decide_eq_true h3
    refine b_ifN (et_eq (e_mod h3.1 (e_var 0) (e_var 1)) e_int) ?_ ?_
    · revert h4; cases decide (n % b = 0) <;> decide
    · exact b_aug ip_add 1 (e_add e_int (e_mod (by decide) (e_var 1) e_int)) (b_e [] (Same.refl _)) sc_is_prime.nd
  · exact b_ret e_bl hs
/-! ### is_file -/
theorem ok_is_file (T : Tx K mg) : Cal P w K mg base 2 "is_file" ["p", "hands", "t", "thing"] (spG (fun i : Int × Int × Int × ((List Int)) => (.cons i.1 (.cons i.2.1 (.cons i.2.2.1 (.cons i.2.2.2 .nil))))) (fun i => (fun (p : Int) (hands : Int) (t : Int) (thing : (List Int)) => nk hands t ∧ (thing.length : Int) = chooseI hands t ∧ thing.length < 1000 ∧ ∀ x ∈ thing, (0 : Int) ≤ x ∧ x < p) i.1 i.2.1 i.2.2.1 i.2.2.2) fun i => (fun (p : Int) (hands : Int) (t : Int) (thing : (List Int)) => Val true) i.1 i.2.1 i.2.2.1 i.2.2.2) := by
  obtain ⟨fd, F⟩ := T.f_is_file
  refine cal_of F T.g_is_file (fn_ok (fun i => [.im (i.1), .im (i.2.1), .im (i.2.2.1), .im (i.2.2.2)]) 1 F sc_is_file (fun i => (ent_im (ent_im (ent_im (ent_im ent_nil))))) (fun _ => rfl) (fun _ => rfl) fun cdv A outer s H Ex i hr hp => ?_) (fun _ _ _ _ _ _ us hl => match us, hl with | [_, _, _, _], _ => rfl)
  obtain ⟨p, hands, t, thing⟩ := i
  have hp : nk hands t ∧ (thing.length : Int) = chooseI hands t ∧ thing.length < 1000 ∧ ∀ x ∈ thing, (0 : Int) ≤ x ∧ x < p := hp
  obtain ⟨h1, h2, h3, h4⟩ := hp
  refine b_ifN (et_w (ew_or (et_not (et_val (e_isi T.m_isinstance T.m_tuple (by decide +kernel) (by decide +kernel : kitB "tuple" "tuple" = some true) (e_var 3) ty_tup))) fun _ => ew_or1 (et_ne (e_lenT T.m_len (e_var 3) (by show thing.length < _; omega)) (e_call (ok_choose T) hr (hands, t) h1 (ea_cons (e_var 1) (ea_cons (e_var 2) ea_nil)))))) (by rw [decide_eq_true h2]; rfl) ?_
  refine b_retV (e_all rfl T.m_all (E.val (e_lc [("number", 4)] sc_is_file.nd (ei_tup (e_var 3)) (by show thing.length < _; omega) (fun s H C cl fp => tgt_name 4 sc_is_file.nd) (fun s H C cl fp H0' hs x hx => E.fresh (e_and (e_call (ok_is_whole T) hr x trivial (ea_cons (e_var 4) ea_nil)) fun _ => e_one (e_lt (e_var 4) (e_var 0))))))) (Same.refl _) ?_
  rw [List.all_eq_true]
  intro b hb
  obtain ⟨x, hx, rfl⟩ := List.mem_map.mp hb
  have := h4 x hx
  show (decide (0 ≤ x) && decide (x < p)) = true
  rw [decide_eq_true this.1, decide_eq_true this.2]
  rfl
/-! ### is_wishes -/
theorem ok_is_wishes (T : Tx K mg) : Cal P w K mg base 2 "is_wishes" ["hands", "files", "thing"] (spG (fun i : Int × ((List Int)) × ((List (Option Int))) => (.cons i.1 (.cons i.2.1 (.cons i.2.2 .nil)))) (fun i => (fun (hands : Int) (files : (List Int)) (thing : (List (Option Int))) => (thing.length : Int) = hands ∧ thing.length < 1000 ∧ ∀ u, some u ∈ thing → (0 : Int) ≤ u ∧ u ∈ files) i.1 i.2.1 i.2.2) fun i => (fun (hands : Int) (files : (List Int)) (thing : (List (Option Int))) => Val true) i.1 i.2.1 i.2.2) := by
  obtain ⟨fd, F⟩ := T.f_is_wishes
  refine cal_of F T.g_is_wishes (fn_ok (fun i => [.im (i.1), .im (i.2.1), .im (i.2.2)]) 1 F sc_is_wishes (fun i => (ent_im (ent_im (ent_im ent_nil)))) (fun _ => rfl) (fun _ => rfl) fun cdv A outer s H Ex i hr hp => ?_) (fun _ _ _ _ _ _ us hl => match us, hl with | [_, _, _], _ => rfl)
  obtain ⟨hands, files, thing⟩ := i
  have hp : (thing.length : Int) = hands ∧ thing.length < 1000 ∧ ∀ u, some u ∈ thing → (0 : Int) ≤ u ∧ u ∈ files := hp
  obtain ⟨h2, h3, h4⟩ := hp
  refine b_ifN (et_w (ew_or (et_not (et_val (e_isi T.m_isinstance T.m_tuple (by decide +kernel) (by decide +kernel : kitB "tuple" "tuple" = some true) (e_var 2) ty_tup))) fun _ => ew_or1 (et_ne (e_lenT T.m_len (e_var 2) (by show thing.length < _; omega)) (e_var 0)))) (by rw [decide_eq_true h2]; rfl) ?_
  refine b_retV (e_all rfl T.m_all (E.val (e_lc (ff := fun _ : Option Int => true) [("one", 3)] sc_is_wishes.nd (ei_tup (e_var 2)) (by show thing.length < _; omega) (fun s H C cl fp => tgt_name 3 sc_is_wishes.nd) (fun s H C cl fp H0' hs x hx => E.fresh ?_)))) (Same.refl _) ?_
  · cases x with
    | none => exact e_or (k := true) (l := true) (e_isN (o := (none : Option Int)) (e_var 3)) fun h => by cases h
    | some u =>
      have := h4 u hx
      have e : (false || (decide (0 ≤ u) && decide (u ∈ files))) = true := by rw [decide_eq_true this.1, decide_eq_true this.2]; rfl
      refine E.weak (e_or (e_isN (o := some u) (e_var 3)) fun _ => e_one (e_and (e_call (ok_is_number T) hr u trivial (ea_cons (E.some (e_var 3)) ea_nil)) fun _ => e_one (e_inT (E.some (e_var 3)) (e_var 1)))) fun H v H' _ z => ?_
      have z : v = V.bl (false || (decide (0 ≤ u) && decide (u ∈ files))) := z
      rw [e] at z
      exact z
  · rw [List.all_eq_true]
    intro b hb
    obtain ⟨x, hx, rfl⟩ := List.mem_map.mp hb
    rfl
/-! ### inverse, lessened -/
def inC (s : Int × Int × Int × Int) : Bool := decide (0 < s.2.1)
def inF (s : Int × Int × Int × Int) : Int × Int × Int × Int := (s.2.1, s.1 - s.1 / s.2.1 * s.2.1, s.2.2.2, s.2.2.1 - s.1 / s.2.1 * s.2.2.2)
def inverseI (p number : Int) : Int := (wl inC inF (p.toNat + 1) (p, number % p, 0, 1)).2.2.1 % p
def smallP (p : Int) : Prop := 0 < p ∧ p < 1073741824
theorem in_fin : ∀ (n : Nat) (s : Int × Int × Int × Int), s.2.1 < (n : Int) → 0 ≤ s.2.1 → inC (wl inC inF n s) = false
  | 0, s, h, h0 => by omega
  | n + 1, s, h, h0 => by
    show inC (if inC s = true then wl inC inF n (inF s) else s) = false
    cases hc : inC s with
    | false => rw [if_neg (by decide)]; exact hc
    | true =>
      rw [if_pos rfl]
      unfold inC at hc
      have hc := of_decide_eq_true hc
      have e : (inF s).2.1 = s.1 % s.2.1 := by
        show s.1 - s.1 / s.2.1 * s.2.1 = _
        have := Int.emod_add_mul_ediv s.1 s.2.1
        rw [Int.mul_comm] at this
        omega
      have h1 := Int.emod_lt_of_pos s.1 hc
      have h2 := Int.emod_nonneg s.1 (Int.ne_of_gt hc)
      refine in_fin n (inF s) ?_ ?_
      · rw [e]; omega
      · rw [e]; exact h2
theorem ok_inverse (T : Tx K mg) : Cal P w K mg base 1 "inverse" ["p", "number"] (spG (fun i : Int × Int => (.cons i.1 (.cons i.2 .nil))) (fun i => (fun (p : Int) (number : Int) => smallP p) i.1 i.2) fun i => (fun (p : Int) (number : Int) => Val (inverseI p number)) i.1 i.2) := by
  obtain ⟨fd, F⟩ := T.f_inverse
  refine cal_of F T.g_inverse (fn_ok (fun i => [.im (i.1), .im (i.2)]) 5 F sc_inverse (fun i => (ent_im (ent_im ent_nil))) (fun _ => rfl) (fun _ => rfl) fun cdv A outer s H Ex i hr hp => ?_) (fun _ _ _ _ _ _ us hl => match us, hl with | [_, _], _ => rfl)
  obtain ⟨p, number⟩ := i
  have hp : smallP p := hp
  obtain ⟨h1, h2⟩ := hp
  refine b_par4 (par4 2 3 4 5 rfl sc_inverse.nd) (e_var 0) (e_mod h1 (e_var 1) (e_var 0)) e_int e_int ?_
  have n1 := Int.emod_lt_of_pos number h1
  have n2 := Int.emod_nonneg number (Int.ne_of_gt h1)
  refine b_while inC inF (fun s : Int × Int × Int × Int => [.im p, .im number, .im s.1, .im s.2.1, .im s.2.2.1, .im s.2.2.2, .no]) (fun s => 0 ≤ s.1 ∧ s.1 < 1073741824 ∧ 0 ≤ s.2.1 ∧ s.2.1 < 1073741824) (p.toNat + 1) (p, number % p, 0, 1) (fun σ H a => a.sub (Sub.of [])) ⟨by show (0 : Int) ≤ p; omega, by show p < _; omega, n2, by show number % p < _; omega⟩ (in_fin _ _ (by show number % p < ((p.toNat + 1 : Nat) : Int); omega) n2) (fun H0' hs s iv => et_gt (e_var 3) e_int) (fun H0' hs s iv hc => ⟨?_, ?_⟩) (fun H0' hs iv => ?_) nox_own
  · unfold inC at hc
    have hc := of_decide_eq_true hc
    have e : (inF s).2.1 = s.1 % s.2.1 := by
      show s.1 - s.1 / s.2.1 * s.2.1 = _
      have := Int.emod_add_mul_ediv s.1 s.2.1
      rw [Int.mul_comm] at this
      omega
    have h1 := Int.emod_lt_of_pos s.1 hc
    have h2 := Int.emod_nonneg s.1 (Int.ne_of_gt hc)
    refine ⟨iv.2.2.1, iv.2.2.2, ?_, ?_⟩
    · rw [e]; exact h2
    · rw [e]; have := iv.2.2.2; omega
  · unfold inC at hc
    have hc := of_decide_eq_true hc
    have q0 : 0 ≤ s.1 / s.2.1 := Int.ediv_nonneg iv.1 (Int.le_of_lt hc)
    have q1 : s.1 / s.2.1 ≤ s.1 := Int.ediv_le_self _ iv.1
    refine b_set 6 (e_fdiv ?_ (e_var 2) (e_var 3)) ?_ sc_inverse.nd
    · unfold CDiv; exact ⟨hc, iv.2.2.2⟩
    refine b_par (par_l 2 3 rfl sc_inverse.nd) (e_var 3) (e_sub (e_var 2) (e_mul ?_ (e_var 6) (e_var 3))) ?_
    · unfold CMul; have := iv.2.2; exact .inr (by omega)
    refine b_par (par_l 4 5 rfl sc_inverse.nd) (e_var 5) (e_sub (e_var 4) (e_mul ?_ (e_var 6) (e_var 5))) (b_e [6] (Same.refl _))
    unfold CMul; have := iv.2.1; exact .inl (by omega)
  · exact b_ret (e_mod h1 (e_var 4) (e_var 0)) hs
def lessI (p : Int) (row other : List Int) (often : Int) : List Int := (row.zip other).map fun e => (e.1 - often * e.2) % p
theorem ok_lessened (T : Tx K mg) : Cal P w K mg base 1 "lessened" ["p", "row", "other", "often"] (spG (fun i : Int × ((Lst Int)) × ((Lst Int)) × Int => (.cons i.1 (.cons i.2.1 (.cons i.2.2.1 (.cons i.2.2.2 .nil))))) (fun i => (fun (p : Int) (row : (Lst Int)) (other : (Lst Int)) (often : Int) => 0 < p ∧ row.l.length < 1000 ∧ -(2 ^ 64) < often ∧ often < 2 ^ 64) i.1 i.2.1 i.2.2.1 i.2.2.2) fun i => (fun (p : Int) (row : (Lst Int)) (other : (Lst Int)) (often : Int) => New (Lst.mk (lessI p row.l other.l often))) i.1 i.2.1 i.2.2.1 i.2.2.2) := by
  obtain ⟨fd, F⟩ := T.f_lessened
  refine cal_of F T.g_lessened (fn_ok (fun i => [.im (i.1), .old (i.2.1), .old (i.2.2.1), .im (i.2.2.2)]) 2 F sc_lessened (fun i => (ent_im (ent_old (ent_old (ent_im ent_nil))))) (fun _ => rfl) (fun _ => rfl) fun cdv A outer s H Ex i hr hp => ?_) (fun _ _ _ _ _ _ us hl => match us, hl with | [_, _, _, _], _ => rfl)
  obtain ⟨p, row, other, often⟩ := i
  have hp : 0 < p ∧ row.l.length < 1000 ∧ -(2 ^ 64) < often ∧ often < 2 ^ 64 := hp
  obtain ⟨h1, h2, h3, h4⟩ := hp
  exact b_ret (e_lc [("one", 4), ("its", 5)] sc_lessened.nd (ei_zipO T.m_zip (e_old 1) (e_old 2)) (by rw [List.length_zip]; show min row.l.length other.l.length < _; omega) (fun s H C cl fp => tgt_2 4 5 rfl sc_lessened.nd) (fun s H C cl fp H0' hs x hx => E.fresh (e_mod h1 (e_sub (e_var 4) (e_mul (.inl ⟨h3, h4⟩) (e_var 3) (e_var 5))) (e_var 0)))) (Same.refl _)
end
end Lk

/-! LkD6 -/
set_option Elab.async false
set_option linter.all false
set_option maxRecDepth 100000
set_option maxHeartbeats 4000000
set_option autoImplicit false
/-! Defs of losses, shelves, telling. -/
namespace Lk
open PySem PySem.Spec PyProof.Rows L2
open Ty (r)
section
variable {P : Program} {w : World} {K : PySem.W.Frag} {mg : Str → Option Value} {base : Heap}
/-! ### weights -/
def waF (p x here : Int) (s : Int × Int) (there : Int) : Int × Int := if (!decide (there = here)) = true then (s.1 * (x - there) % p, s.2 * (here - there) % p) else s
def waOne (p x : Int) (places : List Int) (here : Int) : Int := let s := places.foldl (waF p x here) (1 % p, 1 % p); s.1 * inverseI p s.2 % p
def weightsAt (p : Int) (places : List Int) (x : Int) : List Int := places.foldl (fun f here => f ++ [waOne p x places here]) []
theorem waF_in {p x here there : Int} {s : Int × Int} (hp : 0 < p) (h : 0 ≤ s.1 ∧ s.1 < p ∧ 0 ≤ s.2 ∧ s.2 < p) : 0 ≤ (waF p x here s there).1 ∧ (waF p x here s there).1 < p ∧ 0 ≤ (waF p x here s there).2 ∧ (waF p x here s there).2 < p := by
  unfold waF
  split
  · exact ⟨Int.emod_nonneg _ (Int.ne_of_gt hp), Int.emod_lt_of_pos _ hp, Int.emod_nonneg _ (Int.ne_of_gt hp), Int.emod_lt_of_pos _ hp⟩
  · exact h
theorem wa_len {p x : Int} {pl : List Int} : ∀ (l : List Int) (f : List Int), (l.foldl (fun f here => f ++ [waOne p x pl here]) f).length = f.length + l.length
  | [], f => by simp
  | a :: l, f => by
    show (l.foldl (fun f here => f ++ [waOne p x pl here]) (f ++ [_])).length = _
    rw [wa_len l, List.length_append]
    show f.length + 1 + l.length = f.length + (l.length + 1)
    omega
theorem ok_weights_at (T : Tx K mg) : Cal P w K mg base 2 "weights_at" ["p", "places", "x"] (spG (fun i : Int × ((Lst Int)) × Int => (.cons i.1 (.cons i.2.1 (.cons i.2.2 .nil)))) (fun i => (fun (p : Int) (places : (Lst Int)) (x : Int) => smallP p ∧ places.l.length < 1000) i.1 i.2.1 i.2.2) fun i => (fun (p : Int) (places : (Lst Int)) (x : Int) => Val (weightsAt p places.l x)) i.1 i.2.1 i.2.2) := by
  obtain ⟨fd, F⟩ := T.f_weights_at
  refine cal_of F T.g_weights_at (fn_ok (fun i => [.im (i.1), .old (i.2.1), .im (i.2.2)]) 5 F sc_weights_at (fun i => (ent_im (ent_old (ent_im ent_nil)))) (fun _ => rfl) (fun _ => rfl) fun cdv A outer s H Ex i hr hp => ?_) (fun _ _ _ _ _ _ us hl => match us, hl with | [_, _, _], _ => rfl)
  obtain ⟨p, places, x⟩ := i
  have hp : smallP p ∧ places.l.length < 1000 := hp
  obtain ⟨h1, h2⟩ := hp
  have p0 := h1.1
  refine b_setOwn 3 (e_lst0 (α := Int)) ?_ sc_weights_at.nd
  refine b_forF (fun f : List Int => [.im p, .old places, .im x, .own f, .no, .no, .no, .no]) (fun f here => f ++ [waOne p x places.l here]) [] (ei_old (e_old 1)) (tgt_name 4 sc_weights_at.nd) (Sub.of []) (fun H0' hs i here s e es => ?_) (fun H0' hs => ?_) nox_own
  · refine b_par (par_l 5 6 rfl sc_weights_at.nd) (e_mod p0 e_int (e_var 0)) (e_mod p0 e_int (e_var 0)) ?_
    refine b_forF (fun t : Int × Int => [.im p, .old places, .im x, .own s, .im here, .im t.1, .im t.2, .no]) (waF p x here) (1 % p, 1 % p) (ei_old (e_old 1)) (tgt_name 7 sc_weights_at.nd) (Sub.of []) (fun H1 hs1 i there t e et => ?_) (fun H1 hs1 => ?_) nox_own
    · have ht : 0 ≤ t.1 ∧ t.1 < p ∧ 0 ≤ t.2 ∧ t.2 < p := by
        rw [et]
        exact foldl_inv (fun t : Int × Int => 0 ≤ t.1 ∧ t.1 < p ∧ 0 ≤ t.2 ∧ t.2 < p) (fun s x _ hi => waF_in p0 hi) i ⟨Int.emod_nonneg _ (Int.ne_of_gt p0), Int.emod_lt_of_pos _ p0, Int.emod_nonneg _ (Int.ne_of_gt p0), Int.emod_lt_of_pos _ p0⟩
      have p1 := h1.2
      refine b_if (et_ne (e_var 7) (e_var 4)) (fun h => ?_) fun h => ?_
      · have ew : waF p x here t there = (t.1 * (x - there) % p, t.2 * (here - there) % p) := if_pos h
        rw [ew]
        refine b_set 5 (e_mod p0 (e_mul ?_ (e_var 5) (e_sub (e_var 2) (e_var 7))) (e_var 0)) ?_ sc_weights_at.nd
        · unfold CMul; exact .inl (by omega)
        refine b_set 6 (e_mod p0 (e_mul ?_ (e_var 6) (e_sub (e_var 4) (e_var 7))) (e_var 0)) (b_go (b_e [7] (Same.refl _))) sc_weights_at.nd
        unfold CMul; exact .inl (by omega)
      · have ew : waF p x here t there = t := if_neg (by intro z; have h : (!decide (there = here)) = false := h; rw [z] at h; cases h)
        rw [ew]
        exact b_go (b_e [7] (Same.refl _))
    · have ht : 0 ≤ (places.l.foldl (waF p x here) (1 % p, 1 % p)).1 ∧ (places.l.foldl (waF p x here) (1 % p, 1 % p)).1 < p := by
        have := foldl_inv' (l := places.l) (fun t : Int × Int => 0 ≤ t.1 ∧ t.1 < p ∧ 0 ≤ t.2 ∧ t.2 < p) (fun s y _ hi => waF_in (x := x) (here := here) (there := y) p0 hi) (s0 := (1 % p, 1 % p)) ⟨Int.emod_nonneg _ (Int.ne_of_gt p0), Int.emod_lt_of_pos _ p0, Int.emod_nonneg _ (Int.ne_of_gt p0), Int.emod_lt_of_pos _ p0⟩
        exact ⟨this.1, this.2.1⟩
      have p1 := h1.2
      refine b_app 3 (e_mod p0 (e_mul ?_ (e_var 5) (e_call (ok_inverse T) hr (p, (places.l.foldl (waF p x here) (1 % p, 1 % p)).2) h1 (ea_cons (e_var 0) (ea_cons (e_var 6) ea_nil)))) (e_var 0)) (b_e [4, 5, 6] hs1) ?_
      · unfold CMul; exact .inl (by omega)
      · rw [es, wa_len]
        have : (places.l.take i).length ≤ places.l.length := by rw [List.length_take]; omega
        show 0 + (places.l.take i).length < 1000000
        omega
  · exact b_ret (e_tupL T.m_tuple (e_own 3)) hs
def weighedSum (p : Int) (weights worths : List Int) : Int := ((weights.zip worths).map fun e => e.1 * e.2).sum % p
theorem ok_weighed_sum (T : Tx K mg) : Cal P w K mg base 1 "weighed_sum" ["p", "weights", "worths"] (spG (fun i : Int × ((List Int)) × ((List Int)) => (.cons i.1 (.cons i.2.1 (.cons i.2.2 .nil)))) (fun i => (fun (p : Int) (weights : (List Int)) (worths : (List Int)) => 0 < p ∧ weights.length < 1000 ∧ ∀ x ∈ weights, -(2 ^ 64) < x ∧ x < 2 ^ 64) i.1 i.2.1 i.2.2) fun i => (fun (p : Int) (weights : (List Int)) (worths : (List Int)) => Val (weighedSum p weights worths)) i.1 i.2.1 i.2.2) := by
  obtain ⟨fd, F⟩ := T.f_weighed_sum
  refine cal_of F T.g_weighed_sum (fn_ok (fun i => [.im (i.1), .im (i.2.1), .im (i.2.2)]) 2 F sc_weighed_sum (fun i => (ent_im (ent_im (ent_im ent_nil)))) (fun _ => rfl) (fun _ => rfl) fun cdv A outer s H Ex i hr hp => ?_) (fun _ _ _ _ _ _ us hl => match us, hl with | [_, _, _], _ => rfl)
  obtain ⟨p, weights, worths⟩ := i
  have hp : 0 < p ∧ weights.length < 1000 ∧ ∀ x ∈ weights, -(2 ^ 64) < x ∧ x < 2 ^ 64 := hp
  obtain ⟨h1, h2, h3⟩ := hp
  refine b_ret (e_mod h1 (e_sum rfl T.m_sum (E.val (e_lc (ff := fun e : Int × Int => e.1 * e.2) [("often", 3), ("worth", 4)] sc_weighed_sum.nd (ei_zipT T.m_zip (e_var 1) (e_var 2)) (by rw [List.length_zip]; show min weights.length worths.length < _; omega) (fun s H C cl fp => tgt_2 3 4 rfl sc_weighed_sum.nd) (fun s H C cl fp H0' hs x hx => E.fresh (e_mul (.inl (h3 x.1 (List.of_mem_zip hx).1)) (e_var 3) (e_var 4)))))) (e_var 0)) (Same.refl _)
def placeWeights (p m x : Int) : List Int := if decide (x < m) = true then (rng 0 m.toNat).map fun place => (if decide (place = x) = true then (1 : Int) else 0) % p else weightsAt p (rng 0 m.toNat) x
theorem ok_place_weights (T : Tx K mg) : Cal P w K mg base 3 "place_weights" ["p", "m", "x"] (spG (fun i : Int × Int × Int => (.cons i.1 (.cons i.2.1 (.cons i.2.2 .nil)))) (fun i => (fun (p : Int) (m : Int) (x : Int) => smallP p ∧ 0 ≤ m ∧ m < 1000) i.1 i.2.1 i.2.2) fun i => (fun (p : Int) (m : Int) (x : Int) => Val (placeWeights p m x)) i.1 i.2.1 i.2.2) := by
  obtain ⟨fd, F⟩ := T.f_place_weights
  refine cal_of F T.g_place_weights (fn_ok (fun i => [.im (i.1), .im (i.2.1), .im (i.2.2)]) 2 F sc_place_weights (fun i => (ent_im (ent_im (ent_im ent_nil)))) (fun _ => rfl) (fun _ => rfl) fun cdv A outer s H Ex i hr hp => ?_) (fun _ _ _ _ _ _ us hl => match us, hl with | [_, _, _], _ => rfl)
  obtain ⟨p, m, x⟩ := i
  have hp : smallP p ∧ 0 ≤ m ∧ m < 1000 := hp
  obtain ⟨h1, h2, h3⟩ := hp
  have hl : (rng 0 m.toNat).length < 1000 := by rw [rng_len]; omega
  refine b_setOwn 3 (e_listRg rfl T.m_list T.m_range (e_var 1) ⟨h2, by omega⟩) ?_ sc_place_weights.nd
  refine b_keep 3 fun H1 hs1 => ?_
  exact b_ret (e_ite (et_lt (e_var 2) (e_var 1)) (fun _ => e_tupL T.m_tuple (E.val (e_lc [("place", 4)] sc_place_weights.nd (ei_old (e_old 3)) (by omega) (fun s H C cl fp => tgt_name 4 sc_place_weights.nd) (fun s H C cl fp H0' hs y hy => E.fresh (e_mod h1.1 (e_intB T.m_int (e_eq (e_var 4) (e_var 2))) (e_var 0)))))) fun _ => e_call (ok_weights_at T) hr (p, ⟨rng 0 m.toNat⟩, x) ⟨h1, hl⟩ (ea_cons (e_var 0) (ea_cons (e_old 3).ofOld (ea_cons (e_var 2) ea_nil)))) hs1
theorem plw_in {p m x z : Int} (hp : 0 < p) (h : z ∈ placeWeights p m x) : 0 ≤ z ∧ z < p := by
  unfold placeWeights at h
  split at h
  · obtain ⟨y, _, rfl⟩ := List.mem_map.mp h
    exact ⟨Int.emod_nonneg _ (Int.ne_of_gt hp), Int.emod_lt_of_pos _ hp⟩
  · unfold weightsAt at h
    have : ∀ z ∈ (rng 0 m.toNat).foldl (fun f here => f ++ [waOne p x (rng 0 m.toNat) here]) [], 0 ≤ z ∧ z < p := foldl_inv' (fun f : List Int => ∀ z ∈ f, 0 ≤ z ∧ z < p) (fun f here _ hf z hz => by
      rcases List.mem_append.mp hz with q | q
      · exact hf z q
      · rw [List.mem_singleton.mp q]
        exact ⟨Int.emod_nonneg _ (Int.ne_of_gt hp), Int.emod_lt_of_pos _ hp⟩) (fun z hz => by cases hz)
    exact this z h
theorem plw_len {p m x : Int} : (placeWeights p m x).length = m.toNat := by
  unfold placeWeights
  split
  · rw [List.length_map, rng_len]
  · unfold weightsAt; rw [wa_len, rng_len]; exact Nat.zero_add _
def spareI (p : Int) (cs : List Int) (j : Int) : Int := weighedSum p (placeWeights p cs.length (cs.length + j)) cs
theorem ok_spare (T : Tx K mg) : Cal P w K mg base 4 "spare" ["p", "cries", "j"] (spG (fun i : Int × ((List Int)) × Int => (.cons i.1 (.cons i.2.1 (.cons i.2.2 .nil)))) (fun i => (fun (p : Int) (cries : (List Int)) (j : Int) => smallP p ∧ cries.length < 1000) i.1 i.2.1 i.2.2) fun i => (fun (p : Int) (cries : (List Int)) (j : Int) => Val (spareI p cries j)) i.1 i.2.1 i.2.2) := by
  obtain ⟨fd, F⟩ := T.f_spare
  refine cal_of F T.g_spare (fn_ok (fun i => [.im (i.1), .im (i.2.1), .im (i.2.2)]) 0 F sc_spare (fun i => (ent_im (ent_im (ent_im ent_nil)))) (fun _ => rfl) (fun _ => rfl) fun cdv A outer s H Ex i hr hp => ?_) (fun _ _ _ _ _ _ us hl => match us, hl with | [_, _, _], _ => rfl)
  obtain ⟨p, cries, j⟩ := i
  have hp : smallP p ∧ cries.length < 1000 := hp
  obtain ⟨h1, h2⟩ := hp
  have p0 := h1.1
  have p1 := h1.2
  refine b_ret (e_call (ok_weighed_sum T) hr (p, placeWeights p cries.length (cries.length + j), cries) ⟨p0, ?_, fun x hx => ?_⟩ (ea_cons (e_var 0) (ea_cons (e_call (ok_place_weights T) hr (p, cries.length, cries.length + j) ⟨h1, ?_, ?_⟩ (ea_cons (e_var 0) (ea_cons (e_lenT T.m_len (e_var 1) ?_) (ea_cons (e_add (e_lenT T.m_len (e_var 1) ?_) (e_var 2)) ea_nil)))) (ea_cons (e_var 1) ea_nil)))) (Same.refl _)
  · show (placeWeights p cries.length (cries.length + j)).length < 1000
    rw [plw_len]; omega
  · have := plw_in p0 hx
    omega
  · show (0 : Int) ≤ (cries.length : Int); omega
  · show (cries.length : Int) < 1000; omega
  · show cries.length < _; omega
  · show cries.length < _; omega
def withSpares (p : Int) (cs : List Int) (many : Int) : List Int := cs ++ (rng 0 many.toNat).map fun j => spareI p cs j
theorem ok_with_spares (T : Tx K mg) : Cal P w K mg base 5 "with_spares" ["p", "cries", "many"] (spG (fun i : Int × ((List Int)) × Int => (.cons i.1 (.cons i.2.1 (.cons i.2.2 .nil)))) (fun i => (fun (p : Int) (cries : (List Int)) (many : Int) => smallP p ∧ cries.length < 1000 ∧ 0 ≤ many ∧ many < 1000) i.1 i.2.1 i.2.2) fun i => (fun (p : Int) (cries : (List Int)) (many : Int) => Val (withSpares p cries many)) i.1 i.2.1 i.2.2) := by
  obtain ⟨fd, F⟩ := T.f_with_spares
  refine cal_of F T.g_with_spares (fn_ok (fun i => [.im (i.1), .im (i.2.1), .im (i.2.2)]) 1 F sc_with_spares (fun i => (ent_im (ent_im (ent_im ent_nil)))) (fun _ => rfl) (fun _ => rfl) fun cdv A outer s H Ex i hr hp => ?_) (fun _ _ _ _ _ _ us hl => match us, hl with | [_, _, _], _ => rfl)
  obtain ⟨p, cries, many⟩ := i
  have hp : smallP p ∧ cries.length < 1000 ∧ 0 ≤ many ∧ many < 1000 := hp
  obtain ⟨h1, h2, h3, h4⟩ := hp
  refine b_ret (e_catT ?_ (e_tupT T.m_tuple (e_var 1)) (e_tupL T.m_tuple (E.val (e_lc [("j", 3)] sc_with_spares.nd (ei_rng1 T.m_range (e_var 2) (by show -(2 ^ 62) ≤ many ∧ many < 2 ^ 62; omega)) ?_ (fun s H C cl fp => tgt_name 3 sc_with_spares.nd) (fun s H C cl fp H0' hs y hy => E.fresh (e_call (ok_spare T) hr (p, cries, y) ⟨h1, h2⟩ (ea_cons (e_var 0) (ea_cons (e_var 1) (ea_cons (e_var 3) ea_nil))))))))) (Same.refl _)
  · show cries.length + ((rng 0 many.toNat).map _).length < 1000000
    rw [List.length_map, rng_len]; omega
  · show (rng 0 many.toNat).length < _
    rw [rng_len]; omega
/-! ### shelves -/
def hasI (hands t hand number : Int) : Bool := decide (hand ∈ lotAt hands t number)
theorem ok_has (T : Tx K mg) : Cal P w K mg base 3 "has" ["hands", "t", "hand", "number"] (spG (fun i : Int × Int × Int × Int => (.cons i.1 (.cons i.2.1 (.cons i.2.2.1 (.cons i.2.2.2 .nil))))) (fun i => (fun (hands : Int) (t : Int) (hand : Int) (number : Int) => lotAtOk hands t number = true) i.1 i.2.1 i.2.2.1 i.2.2.2) fun i => (fun (hands : Int) (t : Int) (hand : Int) (number : Int) => Val (hasI hands t hand number)) i.1 i.2.1 i.2.2.1 i.2.2.2) := by
  obtain ⟨fd, F⟩ := T.f_has
  refine cal_of F T.g_has (fn_ok (fun i => [.im (i.1), .im (i.2.1), .im (i.2.2.1), .im (i.2.2.2)]) 0 F sc_has (fun i => (ent_im (ent_im (ent_im (ent_im ent_nil))))) (fun _ => rfl) (fun _ => rfl) fun cdv A outer s H Ex i hr hp => ?_) (fun _ _ _ _ _ _ us hl => match us, hl with | [_, _, _, _], _ => rfl)
  obtain ⟨hands, t, hand, number⟩ := i
  have hp : lotAtOk hands t number = true := hp
  exact b_ret (e_inT (e_var 2) (e_call (ok_lot_at T) hr (hands, t, number) hp (ea_cons (e_var 0) (ea_cons (e_var 1) (ea_cons (e_var 3) ea_nil))))) (Same.refl _)
def shelfI (hands t hand : Int) (file : List Int) : List (Option Int) := (enm file).map fun e => if hasI hands t hand e.1 = true then some e.2 else none
theorem ok_shelf (T : Tx K mg) : Cal P w K mg base 4 "shelf" ["hands", "t", "hand", "file"] (spG (fun i : Int × Int × Int × ((List Int)) => (.cons i.1 (.cons i.2.1 (.cons i.2.2.1 (.cons i.2.2.2 .nil))))) (fun i => (fun (hands : Int) (t : Int) (hand : Int) (file : (List Int)) => file.length < 1000 ∧ ∀ e ∈ enm file, lotAtOk hands t e.1 = true) i.1 i.2.1 i.2.2.1 i.2.2.2) fun i => (fun (hands : Int) (t : Int) (hand : Int) (file : (List Int)) => Val (shelfI hands t hand file)) i.1 i.2.1 i.2.2.1 i.2.2.2) := by
  obtain ⟨fd, F⟩ := T.f_shelf
  refine cal_of F T.g_shelf (fn_ok (fun i => [.im (i.1), .im (i.2.1), .im (i.2.2.1), .im (i.2.2.2)]) 2 F sc_shelf (fun i => (ent_im (ent_im (ent_im (ent_im ent_nil))))) (fun _ => rfl) (fun _ => rfl) fun cdv A outer s H Ex i hr hp => ?_) (fun _ _ _ _ _ _ us hl => match us, hl with | [_, _, _, _], _ => rfl)
  obtain ⟨hands, t, hand, file⟩ := i
  have hp : file.length < 1000 ∧ ∀ e ∈ enm file, lotAtOk hands t e.1 = true := hp
  obtain ⟨h1, h2⟩ := hp
  refine b_ret (e_tupL T.m_tuple (E.val (e_lc (ff := fun e : Int × Int => if hasI hands t hand e.1 = true then some e.2 else none) [("at", 4), ("number", 5)] sc_shelf.nd (ei_enumT T.m_enumerate (e_var 3)) (by rw [enm_len]; show file.length < _; omega) (fun s H C cl fp => tgt_2 4 5 rfl sc_shelf.nd) (fun s H C cl fp H0' hs x hx => E.fresh (e_ite (et_val (e_call (ok_has T) hr (hands, t, hand, x.1) (h2 x hx) (ea_cons (e_var 0) (ea_cons (e_var 1) (ea_cons (e_var 2) (ea_cons (e_var 4) ea_nil)))))) (fun _ => E.toSome (e_var 5)) fun _ => e_non))))) (Same.refl _)
/-! ### own_number, lacked -/
theorem ok_own_number (T : Tx K mg) : Cal P w K mg base 1 "own_number" ["wishes", "hand"] (spG (fun i : ((List (Option Int))) × Int => (.cons i.1 (.cons i.2 .nil))) (fun i => (fun (wishes : (List (Option Int))) (hand : Int) => ∃ u, atI wishes hand = some (some u)) i.1 i.2) fun i => (fun (wishes : (List (Option Int))) (hand : Int) => Val ((wishOf wishes hand).getD 0)) i.1 i.2) := by
  obtain ⟨fd, F⟩ := T.f_own_number
  refine cal_of F T.g_own_number (fn_ok (fun i => [.im (i.1), .im (i.2)]) 0 F sc_own_number (fun i => (ent_im (ent_im ent_nil))) (fun _ => rfl) (fun _ => rfl) fun cdv A outer s H Ex i hr hp => ?_) (fun _ _ _ _ _ _ us hl => match us, hl with | [_, _], _ => rfl)
  obtain ⟨wishes, hand⟩ := i
  have hp : ∃ u, atI wishes hand = some (some u) := hp
  obtain ⟨u, hu⟩ := hp
  have e : (wishOf wishes hand).getD 0 = u := by unfold wishOf; rw [hu]; rfl
  refine b_ifN (et_isN (e_ixT hu (e_var 0) (e_var 1))) rfl ?_
  exact b_retV (E.some (e_ixT hu (e_var 0) (e_var 1))) (Same.refl _) e.symm
def lkIn (number : Int) (f : List ((Int × Int) × Int)) (e : Int × Option Int) : List ((Int × Int) × Int) := if e.2.isNone = true then tput f number e.1 f.length else f
def lkOut (files : List (Int × List (Option Int))) (f : List ((Int × Int) × Int)) (number : Int) : List ((Int × Int) × Int) := (enm ((dget files number).getD [])).foldl (lkIn number) f
def lackedI (wishes : List (Option Int)) (files : List (Int × List (Option Int))) : List ((Int × Int) × Int) := (wishedI wishes).foldl (lkOut files) []
theorem tput_len {l : List ((Int × Int) × Int)} {i j u : Int} : (tput l i j u).length ≤ l.length + 1 := by
  unfold tput
  split
  · rw [List.length_map]; omega
  · simp
theorem lkIn_len {number : Int} : ∀ (l : List (Int × Option Int)) (f : List ((Int × Int) × Int)), (l.foldl (lkIn number) f).length ≤ f.length + l.length
  | [], f => by simp
  | e :: l, f => by
    have h := lkIn_len (number := number) l (lkIn number f e)
    have : (lkIn number f e).length ≤ f.length + 1 := by
      unfold lkIn
      split
      · exact tput_len
      · omega
    show (l.foldl (lkIn number) (lkIn number f e)).length ≤ f.length + (l.length + 1)
    omega
structure LkOk (wishes : List (Option Int)) (files : List (Int × List (Option Int))) : Prop where
  wl : wishes.length < 60
  fs : ∀ m ∈ wishedI wishes, ∃ f, dget files m = some f ∧ f.length < 1000
theorem wished_len {wishes : List (Option Int)} : (wishedI wishes).length ≤ wishes.length := by
  unfold wishedI
  have h2 := sset_le (l := (wishes.filter fun o => !o.isNone).map fun o => o.getD 0) (a := [])
  have h3 := List.length_filter_le (fun o : Option Int => !o.isNone) wishes
  rw [List.length_map, List.length_nil] at h2
  unfold sset
  omega
theorem lkOut_len {files : List (Int × List (Option Int))} : ∀ (l : List Int) (f : List ((Int × Int) × Int)), (∀ m ∈ l, ∃ f, dget files m = some f ∧ f.length < 1000) → (l.foldl (lkOut files) f).length ≤ f.length + 1000 * l.length
  | [], f, _ => by simp
  | m :: l, f, h => by
    have h1 := lkOut_len l (lkOut files f m) fun m hm => h m (List.mem_cons_of_mem _ hm)
    obtain ⟨g, hg, hl⟩ := h m (by simp)
    have h2 : (lkOut files f m).length ≤ f.length + 1000 := by
      unfold lkOut
      rw [hg]
      have := lkIn_len (number := m) (enm g) f
      rw [enm_len] at this
      show ((enm g).foldl (lkIn m) f).length ≤ _
      omega
    show (l.foldl (lkOut files) (lkOut files f m)).length ≤ f.length + 1000 * (l.length + 1)
    omega
theorem ok_lacked (T : Tx K mg) : Cal P w K mg base 2 "lacked" ["wishes", "files"] (spG (fun i : ((List (Option Int))) × ((Dic (List (Option Int)))) => (.cons i.1 (.cons i.2 .nil))) (fun i => (fun (wishes : (List (Option Int))) (files : (Dic (List (Option Int)))) => LkOk wishes files.l) i.1 i.2) fun i => (fun (wishes : (List (Option Int))) (files : (Dic (List (Option Int)))) => New (DiT.mk (lackedI wishes files.l))) i.1 i.2) := by
  obtain ⟨fd, F⟩ := T.f_lacked
  refine cal_of F T.g_lacked (fn_ok (fun i => [.im (i.1), .old (i.2)]) 4 F sc_lacked (fun i => (ent_im (ent_old ent_nil))) (fun _ => rfl) (fun _ => rfl) fun cdv A outer s H Ex i hr hp => ?_) (fun _ _ _ _ _ _ us hl => match us, hl with | [_, _], _ => rfl)
  obtain ⟨wishes, files⟩ := i
  have hp : LkOk wishes files.l := hp
  refine b_setOwnT 2 e_dit0 ?_ sc_lacked.nd
  refine b_forF (fun f : List ((Int × Int) × Int) => [.im wishes, .old files, .ownT f, .no, .no, .no]) (lkOut files.l) [] (ei_tup (e_call (ok_wished T) hr wishes hp.wl (ea_cons (e_var 0) ea_nil))) (tgt_name 3 sc_lacked.nd) (Sub.of []) (fun H0' hs i m s e es => ?_) (fun H0' hs => ?_) nox_own
  · obtain ⟨g, hg, hl⟩ := hp.fs m (List.mem_of_getElem? e)
    have sl : s.length ≤ 60000 := by
      rw [es]
      have h1 := lkOut_len (files := files.l) ((wishedI wishes).take i) [] fun m hm => hp.fs m (List.mem_of_mem_take hm)
      have h2 : ((wishedI wishes).take i).length ≤ (wishedI wishes).length := by rw [List.length_take]; omega
      have h3 := wished_len (wishes := wishes)
      have h4 := hp.wl
      rw [List.length_nil] at h1
      omega
    have eo : lkOut files.l s m = (enm g).foldl (lkIn m) s := by unfold lkOut; rw [hg]; rfl
    rw [eo]
    refine b_forF (fun f : List ((Int × Int) × Int) => [.im wishes, .old files, .ownT f, .im m, .no, .no]) (lkIn m) s (ei_enumT T.m_enumerate (e_getK hr hg (e_old 1).ofOld (e_var 3))) (tgt_2 4 5 rfl sc_lacked.nd) (Sub.of []) (fun H1 hs1 i x f e ef => ?_) (fun H1 hs1 => b_e [3] hs1) nox_own
    have fl : f.length ≤ 61000 := by
      rw [ef]
      have h1 := lkIn_len (number := m) ((enm g).take i) s
      have h2 : ((enm g).take i).length ≤ (enm g).length := by rw [List.length_take]; omega
      rw [enm_len] at h2
      omega
    refine b_if (et_isN (e_var 5)) (fun h => ?_) fun h => ?_
    · have ew : lkIn m f x = tput f m x.1 f.length := if_pos h
      rw [ew]
      exact b_putT hr 2 (e_lenDT T.m_len (e_ownT 2)) (e_tup2 (e_var 3) (e_var 4)) (b_go (b_e [4, 5] (Same.refl _))) (by show f.length < _; omega)
    · have ew : lkIn m f x = f := if_neg (by intro z; have h : x.2.isNone = false := h; rw [z] at h; cases h)
      rw [ew]
      exact b_go (b_e [4, 5] (Same.refl _))
  · exact b_retOwnT 2 hs
/-! ### is_within, may_be_spares -/
theorem ok_is_within (T : Tx K mg) : Cal P w K mg base 1 "is_within" ["thing", "low", "high"] (spG (fun i : Int × Int × Int => (.cons i.1 (.cons i.2.1 (.cons i.2.2 .nil)))) (fun i => (fun (thing : Int) (low : Int) (high : Int) => True) i.1 i.2.1 i.2.2) fun i => (fun (thing : Int) (low : Int) (high : Int) => Val (decide (low ≤ thing) && decide (thing ≤ high))) i.1 i.2.1 i.2.2) := by
  obtain ⟨fd, F⟩ := T.f_is_within
  refine cal_of F T.g_is_within (fn_ok (fun i => [.im (i.1), .im (i.2.1), .im (i.2.2)]) 0 F sc_is_within (fun i => (ent_im (ent_im (ent_im ent_nil)))) (fun _ => rfl) (fun _ => rfl) fun cdv A outer s H Ex i hr hp => ?_) (fun _ _ _ _ _ _ us hl => match us, hl with | [_, _, _], _ => rfl)
  obtain ⟨thing, low, high⟩ := i
  have hp : True := hp
  exact b_retV (e_and (e_isi T.m_isinstance T.m_int (by decide +kernel) (by decide +kernel : kitB "int" "int" = some true) (e_var 0) ty_int) fun _ => e_and (e_not (e_isi T.m_isinstance T.m_bool (by decide +kernel) (by decide +kernel : kitB "int" "bool" = some false) (e_var 0) ty_int)) fun _ => e_one (e_chainLL (e_var 1) (e_var 0) (e_var 2))) (Same.refl _) rfl
theorem ok_may_be_spares (T : Tx K mg) : Cal P w K mg base 5 "may_be_spares" ["p", "t", "wishes", "thing"] (spG (fun i : Int × Int × ((List (Option Int))) × Int => (.cons i.1 (.cons i.2.1 (.cons i.2.2.1 (.cons i.2.2.2 .nil))))) (fun i => (fun (p : Int) (t : Int) (wishes : (List (Option Int))) (thing : Int) => madeOk t wishes ∧ 0 ≤ thing ∧ thing ≤ 1000 ∧ (thing = 0 ∨ madeI t wishes + thing ≤ p)) i.1 i.2.1 i.2.2.1 i.2.2.2) fun i => (fun (p : Int) (t : Int) (wishes : (List (Option Int))) (thing : Int) => Val true) i.1 i.2.1 i.2.2.1 i.2.2.2) := by
  obtain ⟨fd, F⟩ := T.f_may_be_spares
  refine cal_of F T.g_may_be_spares (fn_ok (fun i => [.im (i.1), .im (i.2.1), .im (i.2.2.1), .im (i.2.2.2)]) 0 F sc_may_be_spares (fun i => (ent_im (ent_im (ent_im (ent_im ent_nil))))) (fun _ => rfl) (fun _ => rfl) fun cdv A outer s H Ex i hr hp => ?_) (fun _ _ _ _ _ _ us hl => match us, hl with | [_, _, _, _], _ => rfl)
  obtain ⟨p, t, wishes, thing⟩ := i
  have hp : madeOk t wishes ∧ 0 ≤ thing ∧ thing ≤ 1000 ∧ (thing = 0 ∨ madeI t wishes + thing ≤ p) := hp
  obtain ⟨h1, h2, h3, h4⟩ := hp
  refine b_ifN (et_not (et_val (e_call (ok_is_within T) hr (thing, 0, 1000) trivial (ea_cons (e_var 3) (ea_cons e_int (ea_cons (e_glob T.n_MOST_SPARES) ea_nil)))))) ?_ ?_
  · show (!(decide (0 ≤ thing) && decide (thing ≤ 1000))) = false
    rw [decide_eq_true h2, decide_eq_true h3]; rfl
  · refine b_retV (e_or (l := decide (madeI t wishes + thing ≤ p)) (e_eq (e_var 3) e_int) fun _ => e_one (e_le (e_add (e_call (ok_made T) hr (t, wishes) h1 (ea_cons (e_var 1) (ea_cons (e_var 2) ea_nil))) (e_var 3)) (e_var 0))) (Same.refl _) ?_
    show (decide (thing = 0) || decide (madeI t wishes + thing ≤ p)) = true
    rcases h4 with h | h
    · rw [decide_eq_true h]; rfl
    · rw [decide_eq_true h, Bool.or_true]
end
end Lk

/-! LkD7 -/
set_option Elab.async false
set_option linter.all false
set_option maxRecDepth 100000
set_option maxHeartbeats 4000000
set_option autoImplicit false
/-! row_of -/
namespace Lk
open PySem PySem.Spec PyProof.Rows L2
open Ty (r)
section
variable {P : Program} {w : World} {K : PySem.W.Frag} {mg : Str → Option Value} {base : Heap}
def keptOf (n : Int) (files : List (Int × List (Option Int))) (e : T3 Int Int (List Int)) : Option Int := (atI ((dget files e.b).getD []) (numberOf n e.c)).getD none
def placeOf (n : Int) (places : List ((Int × Int) × Int)) (e : T3 Int Int (List Int)) : Nat := ((tget places e.b (numberOf n e.c)).getD 0).toNat
def roIn (n : Int) (files : List (Int × List (Option Int))) (places : List ((Int × Int) × Int)) (weight : Int) (s : List Int × Int) (e : T3 Int Int (List Int)) : List Int × Int := match keptOf n files e with
  | none => (s.1.set (placeOf n places e) (s.1.getD (placeOf n places e) 0 + weight * e.a), s.2)
  | some u => (s.1, s.2 - weight * e.a * u)
def roOut (p t : Int) (wishes : List (Option Int)) (files : List (Int × List (Option Int))) (places : List ((Int × Int) × Int)) (s : List Int × Int) (x : Int × Int) : List Int × Int :=
  (if decide (0 < x.2 % p) = true then termsI wishes (madeAt t wishes x.1) else []).foldl (roIn wishes.length files places x.2) s
def row0 (n : Nat) : List Int := (List.replicate (n : Int).toNat [(0 : Int)]).flatten
def rowS (p t : Int) (wishes : List (Option Int)) (files : List (Int × List (Option Int))) (places : List ((Int × Int) × Int)) (weights : List Int) (told : Int) : List Int × Int := (enm weights).foldl (roOut p t wishes files places) (row0 places.length, told)
def rowOf (p t : Int) (wishes : List (Option Int)) (files : List (Int × List (Option Int))) (places : List ((Int × Int) × Int)) (weights : List Int) (told : Int) : List Int :=
  let s := rowS p t wishes files places weights told
  s.1 ++ [s.2]
theorem row0_len {n : Nat} : (row0 n).length = n := by
  unfold row0
  rw [Int.toNat_natCast]
  induction n with
  | zero => rfl
  | succ n ih => rw [List.replicate_succ, List.flatten_cons, List.length_append, ih]; show 1 + n = n + 1; omega
theorem roIn_len {n : Int} {files : List (Int × List (Option Int))} {places : List ((Int × Int) × Int)} {weight : Int} {s : List Int × Int} {e : T3 Int Int (List Int)} : (roIn n files places weight s e).1.length = s.1.length := by
  unfold roIn
  cases keptOf n files e with
  | none => exact List.length_set
  | some u => rfl
theorem roOut_len {p t : Int} {wishes : List (Option Int)} {files : List (Int × List (Option Int))} {places : List ((Int × Int) × Int)} {s : List Int × Int} {x : Int × Int} : (roOut p t wishes files places s x).1.length = s.1.length := by
  unfold roOut
  exact foldl_inv' (fun z : List Int × Int => z.1.length = s.1.length) (fun z e _ h => roIn_len.trans h) rfl
structure TermOk (n : Int) (files : List (Int × List (Option Int))) (places : List ((Int × Int) × Int)) (e : T3 Int Int (List Int)) : Prop where
  li : lotIn e.c = true
  sa : -2 ≤ e.a ∧ e.a ≤ 2
  fi : (dget files e.b).isSome = true
  ki : (atI ((dget files e.b).getD []) (numberOf n e.c)).isSome = true
  pl : keptOf n files e = none → tget places e.b (numberOf n e.c) = some ((placeOf n places e : Nat) : Int) ∧ placeOf n places e < places.length
structure RowOk (p t : Int) (wishes : List (Option Int)) (files : List (Int × List (Option Int))) (places : List ((Int × Int) × Int)) (weights : List Int) : Prop where
  p0 : smallP p
  wl : wishes.length ≤ 6
  mo : madeOk t wishes
  pn : places.length < 100000
  ws : ∀ x ∈ enm weights, 0 ≤ x.2 ∧ x.2 < p
  ma : ∀ x ∈ enm weights, madeAtOk t wishes x.1 = true ∧ tOk wishes (madeAt t wishes x.1) = true ∧ ∀ e ∈ termsI wishes (madeAt t wishes x.1), TermOk wishes.length files places e
theorem ok_row_of (T : Tx K mg) : Cal P w K mg base 6 "row_of" ["p", "t", "wishes", "files", "places", "weights", "told"] (spG (fun i : Int × Int × ((List (Option Int))) × ((Dic (List (Option Int)))) × DiT × ((List Int)) × Int => (.cons i.1 (.cons i.2.1 (.cons i.2.2.1 (.cons i.2.2.2.1 (.cons i.2.2.2.2.1 (.cons i.2.2.2.2.2.1 (.cons i.2.2.2.2.2.2 .nil)))))))) (fun i => (fun (p : Int) (t : Int) (wishes : (List (Option Int))) (files : (Dic (List (Option Int)))) (places : DiT) (weights : (List Int)) (told : Int) => RowOk p t wishes files.l places.l weights) i.1 i.2.1 i.2.2.1 i.2.2.2.1 i.2.2.2.2.1 i.2.2.2.2.2.1 i.2.2.2.2.2.2) fun i => (fun (p : Int) (t : Int) (wishes : (List (Option Int))) (files : (Dic (List (Option Int)))) (places : DiT) (weights : (List Int)) (told : Int) => New (Lst.mk (rowOf p t wishes files.l places.l weights told))) i.1 i.2.1 i.2.2.1 i.2.2.2.1 i.2.2.2.2.1 i.2.2.2.2.2.1 i.2.2.2.2.2.2) := by
  obtain ⟨fd, F⟩ := T.f_row_of
  refine cal_of F T.g_row_of (fn_ok (fun i => [.im (i.1), .im (i.2.1), .im (i.2.2.1), .old (i.2.2.2.1), .old (i.2.2.2.2.1), .im (i.2.2.2.2.2.1), .im (i.2.2.2.2.2.2)]) 9 F sc_row_of (fun i => (ent_im (ent_im (ent_im (ent_old (ent_old (ent_im (ent_im ent_nil)))))))) (fun _ => rfl) (fun _ => rfl) fun cdv A outer s H Ex i hr hp => ?_) (fun _ _ _ _ _ _ us hl => match us, hl with | [_, _, _, _, _, _, _], _ => rfl)
  obtain ⟨p, t, wishes, files, places, weights, told⟩ := i
  have hp : RowOk p t wishes files.l places.l weights := hp
  have pn := hp.pn
  have wl := hp.wl
  refine b_parOI (par_l 7 8 rfl sc_row_of.nd) (e_rep (by show -(2 ^ 62) ≤ (places.l.length : Int) ∧ (places.l.length : Int) < _; omega) (by show 1 * ((places.l.length : Nat) : Int).toNat < _; omega) (E.val (e_lst1 e_int)) (e_lenDT T.m_len (e_old 4).ofOld)) (e_var 6) ?_
  refine b_forF (fun s : List Int × Int => [.im p, .im t, .im wishes, .old files, .old places, .im weights, .im told, .own s.1, .im s.2, .no, .no, .no, .no, .no, .no, .no]) (roOut p t wishes files.l places.l) (row0 places.l.length, told) (ei_enumT T.m_enumerate (e_var 5)) (tgt_2 9 10 rfl sc_row_of.nd) (Sub.of []) (fun H0' hs i x s e es => ?_) (fun H0' hs => ?_) nox_own
  · have hx := List.mem_of_getElem? e
    have hw := hp.ws x hx
    obtain ⟨m1, m2, m3⟩ := hp.ma x hx
    have sl : s.1.length = places.l.length := by
      rw [es]
      exact foldl_inv (fun z : List Int × Int => z.1.length = places.l.length) (fun z y _ h => roOut_len.trans h) i row0_len
    refine b_forF (fun s : List Int × Int => [.im p, .im t, .im wishes, .old files, .old places, .im weights, .im told, .own s.1, .im s.2, .im x.1, .im x.2, .no, .no, .no, .no, .no]) (roIn wishes.length files.l places.l x.2) s (ei_tup (e_ite (u := termsI wishes (madeAt t wishes x.1)) (v := []) (et_gt (e_mod hp.p0.1 (e_var 10) (e_var 0)) e_int) (fun _ => e_call (ok_terms T) hr (wishes, madeAt t wishes x.1) m2 (ea_cons (e_var 2) (ea_cons (e_call (ok_made_at T) hr (t, wishes, x.1) ⟨hp.mo, m1⟩ (ea_cons (e_var 1) (ea_cons (e_var 2) (ea_cons (e_var 9) ea_nil)))) ea_nil))) fun _ => e_tup0)) (tgt_3 11 12 13 rfl sc_row_of.nd) (Sub.of []) (fun H1 hs1 i y r e er => ?_) (fun H1 hs1 => b_e [9, 10] hs1) nox_own
    have hy : y ∈ termsI wishes (madeAt t wishes x.1) := by
      have := List.mem_of_getElem? e
      split at this
      · exact this
      · cases this
    have ho := m3 y hy
    have rl : r.1.length = places.l.length := by
      rw [er]
      exact foldl_inv (fun z : List Int × Int => z.1.length = places.l.length) (fun z y _ h => roIn_len.trans h) i sl
    refine b_set 14 (e_call (ok_number_of T) hr (wishes.length, y.c) ⟨by show (0 : Int) ≤ (wishes.length : Int); omega, by show (wishes.length : Int) ≤ 6; omega, (lotIn_ok ho.li).1, (lotIn_ok ho.li).2⟩ (ea_cons (e_lenT T.m_len (e_var 2) (by show wishes.length < _; omega)) (ea_cons (e_var 13) ea_nil))) ?_ sc_row_of.nd
    refine b_set 15 (e_ixT (some_getD (d := (none : Option Int)) ho.ki) (e_getK hr (some_getD ho.fi) (e_old 3).ofOld (e_var 12)) (e_var 14)) ?_ sc_row_of.nd
    have hsa := ho.sa
    have p1 := hp.p0.2
    have ep : roIn wishes.length files.l places.l x.2 r y = match keptOf wishes.length files.l y with
      | none => (r.1.set (placeOf wishes.length places.l y) (r.1.getD (placeOf wishes.length places.l y) 0 + x.2 * y.a), r.2)
      | some u => (r.1, r.2 - x.2 * y.a * u) := rfl
    refine b_if (et_isN (o := keptOf wishes.length files.l y) (e_var 15)) (fun h => ?_) fun h => ?_
    · cases hk : keptOf wishes.length files.l y with
      | some u => rw [hk] at h; cases h
      | none =>
        rw [hk] at ep
        have ep : roIn wishes.length files.l places.l x.2 r y = (r.1.set (placeOf wishes.length places.l y) (r.1.getD (placeOf wishes.length places.l y) 0 + x.2 * y.a), r.2) := ep
        rw [ep]
        obtain ⟨q1, q2⟩ := ho.pl hk
        refine b_augL ip_add 7 (e_getT hr q1 (e_old 4).ofOld (e_tup2 (e_var 12) (e_var 14))) (e_mul ?_ (e_var 10) (e_var 11)) ?_ (by show r.1.length < _; omega) (b_go (b_e [11, 12, 13, 14, 15] (Same.refl _)))
        · unfold CMul; refine .inl ?_; show -(2 ^ 64) < x.2 ∧ x.2 < 2 ^ 64; omega
        · have : placeOf wishes.length places.l y < r.1.length := by omega
          show r.1[placeOf wishes.length places.l y]? = some (r.1.getD (placeOf wishes.length places.l y) 0)
          rw [List.getD_eq_getElem?_getD, List.getElem?_eq_getElem this]; rfl
    · cases hk : keptOf wishes.length files.l y with
      | none => rw [hk] at h; cases h
      | some u =>
        rw [hk] at ep
        have ep : roIn wishes.length files.l places.l x.2 r y = (r.1, r.2 - x.2 * y.a * u) := ep
        rw [ep]
        refine b_aug ip_sub 8 (e_mul ?_ (e_mul ?_ (e_var 10) (e_var 11)) (E.some (u := u) ?_)) (b_go (b_e [11, 12, 13, 14, 15] (Same.refl _))) sc_row_of.nd
        · unfold CMul
          refine .inl ?_
          have h1 : x.2 * y.a ≤ x.2 * 2 := Int.mul_le_mul_of_nonneg_left hsa.2 hw.1
          have h2 : x.2 * (-2) ≤ x.2 * y.a := Int.mul_le_mul_of_nonneg_left hsa.1 hw.1
          omega
        · unfold CMul; refine .inl ?_; show -(2 ^ 64) < x.2 ∧ x.2 < 2 ^ 64; omega
        · rw [← hk]; exact e_var 15
  · refine b_ret (e_catL ?_ (e_own 7) (E.val (e_lst1 (e_var 8)))) hs
    have sl : ((enm weights).foldl (roOut p t wishes files.l places.l) (row0 places.l.length, told)).1.length = places.l.length := foldl_inv' (fun z : List Int × Int => z.1.length = places.l.length) (fun z y _ h => roOut_len.trans h) row0_len
    show ((enm weights).foldl (roOut p t wishes files.l places.l) (row0 places.l.length, told)).1.length + 1 < 1000000
    omega
end
end Lk

/-! LkO -/
set_option Elab.async false
set_option linter.all false
set_option maxRecDepth 100000
set_option maxHeartbeats 4000000
set_option autoImplicit false
/-! Objects: attributes read, methods called, things of the base changed. -/
namespace Lk
open PySem PySem.Spec PyProof.Rows L2
open Ty (r)
/-- v is an instance of the class at C with these attributes -/
def IsIns (C : Addr) (fs : List (Str × V)) (v : V) (H : Hp) : Prop := ∃ p dx, v = .ref p ∧ H p = some (.ins C dx fs)
theorem IsIns.mono {C : Addr} {fs : List (Str × V)} {v : V} {H H' : Hp} (s : Same H H') (h : IsIns C fs v H) : IsIns C fs v H' := let ⟨p, dx, e, q⟩ := h; ⟨p, dx, e, s _ _ q⟩
structure CalM (P : Program) (w : World) (K : PySem.W.Frag) (mg : Str → Option Value) (base : Heap) (k : Nat) (C : Addr) (m : Str) (ps : List Str) (sp : Sp) : Prop where
  ex : ∃ f fd, FnOk P w K mg base CX0 k f fd ps sp ∧ Meth K C m f ∧ Cls K C ∧ Binds K fd ps []
theorem calM_of {P : Program} {w : World} {K : PySem.W.Frag} {mg : Str → Option Value} {base : Heap} {k : Nat} {C : Addr} {m nm qual : Str} {ps : List Str} {sp : Sp} {params : Arguments} {body : List Stmt} {scope : Scope} {f : Addr} {fd : FuncData}
    (F : FunD K nm qual params body scope [] [] f fd) (hm : Meth K C m f) (hc : Cls K C) (ok : FnOk P w K mg base CX0 k f fd ps sp)
    (h : ∀ (kV doc pm : Value) (an : Option Addr) (cdv ct : Value) (us : List Value), us.length = ps.length → bindArgs (PySem.W.fnOf nm qual params body scope .none kV doc pm an cdv ct) ⟨us, []⟩ = pure (ps.zip us)) : CalM P w K mg base k C m ps sp :=
  ⟨f, fd, ok, hm, hc, F.bindsN h⟩
section
variable {X : Cx} {H0 He : Hp} {G : List Slot} {e a b c o tg : Expr} {es : List Expr} {pos p apos : Pos} {ρ : Res} {R : Ars} {D : Ends} {st : Stmt} {rest body els : List Stmt}
/-! ### attributes -/
theorem e_fldO {α β : Type} [Ty α] [Ty β] {x : α} {u : β} {f : Str} (hx : ∀ v H, r x v H → ∃ C fs z, IsIns C fs v H ∧ Cls X.K C ∧ NoAttr X.K C f ∧ fs.lookup f = some z ∧ r u z H) (ha : E X H0 G a (Old H0 x)) (hb : attributeBase a f X.env (eval a X.env) = eval a X.env := by rfl) : E X H0 G (.Attribute a f pos) (Old H0 u) := fun σ H Q h0 q =>
  pe_out (pe_fld pe_in hb) (ha σ H _ h0 fun v H1 s1 p1 => by
    obtain ⟨C, fs, z, ⟨p, dx, e1, e2⟩, c1, c2, c3, c4⟩ := hx v H0 p1
    exact ⟨p, C, dx, fs, z, e1, s1 _ _ (h0.same _ _ e2), c1, c2, c3, q _ H1 s1 c4⟩)
theorem e_fldV {α β : Type} [Ty α] [Ty β] {x : α} {u : β} {f : Str} (hx : ∀ v H, r x v H → ∃ C fs z, IsIns C fs v H ∧ Cls X.K C ∧ NoAttr X.K C f ∧ fs.lookup f = some z ∧ r u z H) (ha : E X H0 G a (Val x)) (hb : attributeBase a f X.env (eval a X.env) = eval a X.env := by rfl) : E X H0 G (.Attribute a f pos) (Val u) := fun σ H Q h0 q =>
  pe_out (pe_fld pe_in hb) (ha σ H _ h0 fun v H1 s1 p1 => by
    obtain ⟨C, fs, z, ⟨p, dx, e1, e2⟩, c1, c2, c3, c4⟩ := hx v H1 p1
    exact ⟨p, C, dx, fs, z, e1, e2, c1, c2, c3, q _ H1 s1 c4⟩)
/-! ### methods -/
theorem e_meth {ι α : Type} [Ty α] {x : α} {args : ι → Ars} {pre : ι → Prop} {res : ι → Res} {k m : Nat} {C : Addr} {nm : Str} {ps : List Str} {pl : Sem Bool} (F : CalM X.prog X.w X.K X.mg X.base k C nm ps (spG args pre res)) (hr : Room m X.A) (i : ι) (hp : pre i) (hx : ∀ v H, r x v H → ∃ fs, IsIns C fs v H ∧ fs.lookup nm = none) 
    (ho : E X H0 G o (Val x)) (ha : EA X H0 G (e :: es) R) (hk : k ≤ m := by decide) (hR : args i = .cons x R := by rfl) (hρ : res i = ρ := by rfl)
    (hst : starEach (e :: es) X.env = (false, eval e X.env) :: starEach es X.env := by rfl) (hpl : (backTo pos (starEach es X.env)).any (·.1) = false := by rfl)
    (ht : eval (.Call (.Attribute o nm apos) (e :: es) [] pos) X.env = (do
      let ov ← eval o X.env
      standAt apos.atName
      let (f, first) ← holding [ov] (getMethod ov nm pl)
      callWith pos f first (backTo pos (starEach (e :: es) X.env)) (backToKw pos (keywordEach [] X.env))) := by rfl) : E X H0 G (.Call (.Attribute o nm apos) (e :: es) [] pos) ρ := fun σ H Q h0 q => by
  subst hρ
  obtain ⟨f, fd, F1, F2, F3, F4⟩ := F.ex
  refine pe_out (pe_meth pe_in F3 F2 F1 (hr.mono hk) F4 .nil pass0 pa_in hst hpl ht) (ho σ H _ h0 fun v H1 s1 p1 => ?_)
  obtain ⟨fs, ⟨p, dx, e1, e2⟩, e3⟩ := hx v H1 p1
  refine ⟨p, dx, fs, e1, e2, e3, ha σ H1 _ (h0.ext s1) fun vs H2 s2 p2 => ?_⟩
  show spG args pre res (v :: (vs ++ [])) H2 Q E0
  rw [List.append_nil]
  refine ⟨i, hp, ?_, fun u H3 s3 p3 => q u H3 (Same.trans (Same.trans s1 s2) s3) ((res i).anti (Same.trans s1 s2) s3 p3)⟩
  rw [hR]
  exact ⟨v, vs, rfl, Ty.mono s2 p1, p2⟩
theorem e_meth0 {ι α : Type} [Ty α] {x : α} {args : ι → Ars} {pre : ι → Prop} {res : ι → Res} {k m : Nat} {C : Addr} {nm : Str} {ps : List Str} {pl : Sem Bool} (F : CalM X.prog X.w X.K X.mg X.base k C nm ps (spG args pre res)) (hr : Room m X.A) (i : ι) (hp : pre i) (hx : ∀ v H, r x v H → ∃ fs, IsIns C fs v H ∧ fs.lookup nm = none) 
    (ho : E X H0 G o (Val x)) (hk : k ≤ m := by decide) (hR : args i = .cons x .nil := by rfl) (hρ : res i = ρ := by rfl)
    (ht : eval (.Call (.Attribute o nm apos) [] [] pos) X.env = (do
      let ov ← eval o X.env
      standAt apos.atName
      let (f, first) ← holding [ov] (getMethod ov nm pl)
      callWith pos f first (backTo pos (starEach [] X.env)) (backToKw pos (keywordEach [] X.env))) := by rfl) : E X H0 G (.Call (.Attribute o nm apos) [] [] pos) ρ := fun σ H Q h0 q => by
  subst hρ
  obtain ⟨f, fd, F1, F2, F3, F4⟩ := F.ex
  refine pe_out (pe_meth0 pe_in F3 F2 F1 (hr.mono hk) F4 .nil pass0 ht) (ho σ H _ h0 fun v H1 s1 p1 => ?_)
  obtain ⟨fs, ⟨p, dx, e1, e2⟩, e3⟩ := hx v H1 p1
  refine ⟨p, dx, fs, e1, e2, e3, ?_⟩
  show spG args pre res (v :: ([] ++ [])) H1 Q E0
  refine ⟨i, hp, ?_, fun u H3 s3 p3 => q u H3 (Same.trans s1 s3) ((res i).anti s1 s3 p3)⟩
  rw [hR]
  exact ⟨v, [], rfl, p1, rfl⟩
/-! ### the base changed -/
/-- how the slots go over from the base H0 to another one -/
inductive Chg (H0 H1 : Hp) : List Slot → List Slot → Prop
  | nil : Chg H0 H1 [] []
  | im {α : Type} [Im α] (x : α) {G G' : List Slot} : Chg H0 H1 G G' → Chg H0 H1 (.im x :: G) (.im x :: G')
  | own {α : Type} [Im α] (l : List α) {G G' : List Slot} : Chg H0 H1 G G' → Chg H0 H1 (.own l :: G) (.own l :: G')
  | ownK {α : Type} [Im α] (l : List (Int × α)) {G G' : List Slot} : Chg H0 H1 G G' → Chg H0 H1 (.ownK l :: G) (.ownK l :: G')
  | ownT (l : List ((Int × Int) × Int)) {G G' : List Slot} : Chg H0 H1 G G' → Chg H0 H1 (.ownT l :: G) (.ownT l :: G')
  | drop (s : Slot) {G G' : List Slot} : Chg H0 H1 G G' → Chg H0 H1 (s :: G) (.no :: G')
  | old {α β : Type} [Ty α] [Ty β] (x : α) (y : β) {G G' : List Slot} : (∀ v, r x v H0 → r y v H1) → Chg H0 H1 G G' → Chg H0 H1 (.old x :: G) (.old y :: G')
theorem Chg.len {H0 H1 : Hp} {G G' : List Slot} (h : Chg H0 H1 G G') : G.length = G'.length := by
  induction h <;> simp_all
theorem Chg.get {H0 H1 : Hp} {G G' : List Slot} (h : Chg H0 H1 G G') : ∀ {i : Nat} {s' : Slot}, G'[i]? = some s' → s' = .no ∨ (∃ s, G[i]? = some s ∧ (∀ v H, s.ok H0 v H → s.isOwn → s = s') ∧ (s'.isOwn → s = s') ∧ (¬ s'.isOwn → ∀ v H H', KeepT H H' → s.ok H0 v H → s'.ok H1 v H')) := by
  induction h with
  | nil => intro i s' e; simp at e
  | im x _ ih =>
    intro i s' e
    cases i with
    | zero => cases e; exact .inr ⟨_, rfl, fun _ _ _ o => o.elim, fun o => o.elim, fun _ v H H' kt q => Im.keep kt q⟩
    | succ i => exact ih (by simpa using e)
  | own l _ ih =>
    intro i s' e
    cases i with
    | zero => cases e; exact .inr ⟨_, rfl, fun _ _ _ _ => rfl, fun _ => rfl, fun o => absurd trivial o⟩
    | succ i => exact ih (by simpa using e)
  | ownK l _ ih =>
    intro i s' e
    cases i with
    | zero => cases e; exact .inr ⟨_, rfl, fun _ _ _ _ => rfl, fun _ => rfl, fun o => absurd trivial o⟩
    | succ i => exact ih (by simpa using e)
  | ownT l _ ih =>
    intro i s' e
    cases i with
    | zero => cases e; exact .inr ⟨_, rfl, fun _ _ _ _ => rfl, fun _ => rfl, fun o => absurd trivial o⟩
    | succ i => exact ih (by simpa using e)
  | drop s _ ih =>
    intro i s' e
    cases i with
    | zero => cases e; exact .inl rfl
    | succ i => exact ih (by simpa using e)
  | old x y hxy _ ih =>
    intro i s' e
    cases i with
    | zero => cases e; exact .inr ⟨_, rfl, fun _ _ _ o => o.elim, fun o => o.elim, fun _ v H H' _ q => hxy v q⟩
    | succ i => exact ih (by simpa using e)
/-- from the base H0 and the heap H to others: what H0 had and lacks is at other places than the owned things -/
theorem At.chg {H0' H H' : Hp} {G G' : List Slot} {σ : L2.St} (h : At H0 G σ H) (c : Chg H0 H0' G G') (kt : KeepT H H') (s' : Same H0' H') (hk : ∀ b u, H0 b = none → H b = some u → (∀ xs, u ≠ .tup xs) → H' b = some u ∧ H0' b = none) : At H0' G' σ H' := by
  have own : ∀ (t : Slot) v, t.isOwn → t.ok H0 v H → t.ok H0' v H' := fun t v o q => by
    cases t with
    | no => exact o.elim
    | im a => exact o.elim
    | old a => exact o.elim
    | own l =>
      obtain ⟨p, xs, q1, q2, q3, q4⟩ := q
      obtain ⟨k1, k2⟩ := hk p _ q2 q3 fun _ z => nomatch z
      exact ⟨p, xs, q1, k2, k1, q4.keep kt⟩
    | ownK l =>
      obtain ⟨p, xs, q1, q2, q3, q4⟩ := q
      obtain ⟨k1, k2⟩ := hk p _ q2 q3 fun _ z => nomatch z
      exact ⟨p, xs, q1, k2, k1, q4.keep kt⟩
    | ownT l =>
      obtain ⟨p, q1, q2, q3⟩ := q
      obtain ⟨k1, k2⟩ := hk p _ q2 q3 fun _ z => nomatch z
      exact ⟨p, q1, k2, k1⟩
  refine ⟨h.len.trans c.len, fun i t e => ?_, fun i j s t v e1 e2 o1 o2 q1 q2 => ?_, s'⟩
  · rcases c.get e with rfl | ⟨s, e1, _, k2, k3⟩
    · have il : i < σ.length := by
        rw [h.len, c.len]
        exact (List.getElem?_eq_some_iff.mp e).1
      exact ⟨σ[i], by simp [il], trivial⟩
    · obtain ⟨o, f1, f2⟩ := h.at_ i s e1
      refine ⟨o, f1, ?_⟩
      by_cases hno : s = .no
      · subst hno
        by_cases ot : t.isOwn
        · have := k2 ot
          subst this
          exact ot.elim
        · have z := k3 ot
          cases t with
          | no => trivial
          | im a =>
            -- nothing is known of the slot: this does not come from a change
            cases o with
            | none => exact (Chg.noim c e1 e).elim
            | some v => exact (Chg.noim c e1 e).elim
          | old a => exact (Chg.noold c e1 e).elim
          | own l => exact absurd trivial ot
          | ownK l => exact absurd trivial ot
          | ownT l => exact absurd trivial ot
      · obtain ⟨v, ev, q⟩ := Slot.at_get f2 hno
        rw [ev]
        by_cases ot : t.isOwn
        · have := k2 ot
          subst this
          exact Slot.at_some (own _ v ot q)
        · exact Slot.at_some (k3 ot v H H' kt q)
  · rcases c.get e1 with rfl | ⟨s0, f1, _, k2, _⟩
    · exact o1.elim
    · rcases c.get e2 with rfl | ⟨t0, g1, _, l2, _⟩
      · exact o2.elim
      · have e := k2 o1
        have e' := l2 o2
        subst e e'
        exact h.apart i j _ _ v f1 g1 o1 o2 q1 q2
where
  Chg.noim {H0' : Hp} {G G' : List Slot} (c : Chg H0 H0' G G') : ∀ {i : Nat} {α : Type} [Im α] {a : α}, G[i]? = some .no → G'[i]? = some (.im a) → False := by
    induction c with
    | nil => intro i α _ a e; simp at e
    | im x _ ih => intro i α _ a e1 e2; cases i with | zero => cases e1 | succ i => exact ih (by simpa using e1) (by simpa using e2)
    | own x _ ih => intro i α _ a e1 e2; cases i with | zero => cases e1 | succ i => exact ih (by simpa using e1) (by simpa using e2)
    | ownK x _ ih => intro i α _ a e1 e2; cases i with | zero => cases e1 | succ i => exact ih (by simpa using e1) (by simpa using e2)
    | ownT x _ ih => intro i α _ a e1 e2; cases i with | zero => cases e1 | succ i => exact ih (by simpa using e1) (by simpa using e2)
    | drop s _ ih => intro i α _ a e1 e2; cases i with | zero => cases e2 | succ i => exact ih (by simpa using e1) (by simpa using e2)
    | old x y _ _ ih => intro i α _ a e1 e2; cases i with | zero => cases e1 | succ i => exact ih (by simpa using e1) (by simpa using e2)
  Chg.noold {H0' : Hp} {G G' : List Slot} (c : Chg H0 H0' G G') : ∀ {i : Nat} {α : Type} [Ty α] {a : α}, G[i]? = some .no → G'[i]? = some (.old a) → False := by
    induction c with
    | nil => intro i α _ a e; simp at e
    | im x _ ih => intro i α _ a e1 e2; cases i with | zero => cases e1 | succ i => exact ih (by simpa using e1) (by simpa using e2)
    | own x _ ih => intro i α _ a e1 e2; cases i with | zero => cases e1 | succ i => exact ih (by simpa using e1) (by simpa using e2)
    | ownK x _ ih => intro i α _ a e1 e2; cases i with | zero => cases e1 | succ i => exact ih (by simpa using e1) (by simpa using e2)
    | ownT x _ ih => intro i α _ a e1 e2; cases i with | zero => cases e1 | succ i => exact ih (by simpa using e1) (by simpa using e2)
    | drop s _ ih => intro i α _ a e1 e2; cases i with | zero => cases e2 | succ i => exact ih (by simpa using e1) (by simpa using e2)
    | old x y _ _ ih => intro i α _ a e1 e2; cases i with | zero => cases e1 | succ i => exact ih (by simpa using e1) (by simpa using e2)
/-- one thing of the base is written -/
theorem At.upd0 {H : Hp} {G G' : List Slot} {σ : L2.St} {q : Addr} {u o' : HO} (h : At H0 G σ H) (hq : H0 q = some u) (nt : ∀ xs, u ≠ .tup xs) (c : Chg H0 (upd H0 q o') G G') : At (upd H0 q o') G' σ (upd H q o') := by
  have hH := h.same _ _ hq
  refine h.chg c (fun b xs e => ?_) (fun b w e => ?_) fun b w e1 e2 _ => ?_
  · have ne : b ≠ q := fun z => by subst z; rw [hH] at e; exact nt xs (Option.some.inj e)
    rw [upd_ne ne]; exact e
  · by_cases hb : b = q
    · subst hb; rw [upd_same] at e ⊢; exact e
    · rw [upd_ne hb] at e ⊢; exact h.same b w e
  · have ne : b ≠ q := fun z => by subst z; rw [hq] at e1; cases e1
    exact ⟨by rw [upd_ne ne]; exact e2, by rw [upd_ne ne]; exact e1⟩
end
end Lk

/-! LkU -/
set_option Elab.async false
set_option linter.all false
set_option maxRecDepth 100000
set_option maxHeartbeats 4000000
set_option autoImplicit false
/-! Lists of old and new things; an object at a known address. -/
namespace Lk
open PySem PySem.Spec PyProof.Rows L2
open Ty (r)
theorem reb_mono {H0 H H1 H2 : Hp} (s : Same H1 H2) : Same (reb H0 H H1) (reb H0 H H2) := fun b o e => by
  unfold reb at e ⊢
  cases h : H0 b with
  | some u => rw [h] at e; exact e
  | none => rw [h] at e; exact cut_mono s b o e
theorem reb_anti {H0 H H' H1 : Hp} (s : Same H' H) (s1 : Same H H1) : Same (reb H0 H H1) (reb H0 H' H1) := fun b o e => by
  unfold reb at e ⊢
  cases h : H0 b with
  | some u => rw [h] at e; exact e
  | none => rw [h] at e; exact cut_anti s s1 b o e
/-- made of old things and new ones -/
def Mix {α : Type} [Ty α] (H0 : Hp) (a : α) : Res where
  p H v H' := r a v (reb H0 H H')
  mono _ s h := Ty.mono (reb_mono s) h
  anti s s1 h := Ty.mono (reb_anti s s1) h
/-- what the comprehension's list holds so far: the items stand apart from it -/
def GotM (B0 H : Hp) (Dl : Addr) {α : Type} [Ty α] (l : List α) (Hh : Hp) : Prop := ∃ xs, Hh Dl = some (.lst xs) ∧ ∃ Hc, Same Hc Hh ∧ Hc Dl = none ∧ (∀ b o, Hc b = some o → B0 b = some o ∨ H b = none ∨ ∃ ys, o = .tup ys) ∧ A2 l xs Hc
theorem lc_walkM {B0 : Hp} {γ α : Type} [Im γ] [Ty α] {l : List γ} {J : It} {Hb H1 : Hp} {Dl : Addr} {g : TG} {tt : TT} {te : TE} {vs : List Nat} {σ : L2.St} {Qd : Hp → Prop} (pf : γ → Bool) (ff : γ → α) (W : Wk l J Hb) (sb : Same Hb H1) (sB : Same B0 H1) (hD : H1 Dl = none) (hlen : l.length < 100000)
    (hs : ∀ (i : Nat) (x : γ) v H2, l[i]? = some x → r x v H2 → Same H1 H2 → (∃ ys, H2 Dl = some (.lst ys)) → ∀ (Nx : Hp → Prop), (∀ H3, Same H2 H3 → pf x = false → Nx H3) →
      (∀ H3 y, Same H2 H3 → pf x = true → r (ff x) y (reb B0 H2 H3) → ∃ acc, H3 Dl = some (.lst acc) ∧ acc.length < sizeLine ∧ Nx (upd H3 Dl (.lst (acc ++ [y])))) →
      g v (wipe σ vs) H2 fun σ2 H3 => wipe σ2 vs = wipe σ vs ∧ tt σ2 H3 fun b H4 => if b = true then te σ2 H4 fun y H5 => ∃ acc, H5 Dl = some (.lst acc) ∧ acc.length < sizeLine ∧ Nx (upd H5 Dl (.lst (acc ++ [y]))) else Nx H4)
    (hd : ∀ H2, Same H1 H2 → r (Lst.mk ((l.filter pf).map ff)) (.ref Dl) (reb B0 H1 H2) → Qd H2) :
    ∃ W : Nat → Nat → Hp → Prop, (∃ m, W 0 m (upd H1 Dl (.lst []))) ∧ ∀ i m H, W i m H →
      (J.stop i H ∧ Qd H) ∨ (J.go i H ∧ ∃ Nx : Hp → Prop, (∀ H', Nx H' → ∃ m', m' < m ∧ W (i + 1) m' H') ∧ ∀ x H', J.yld i H x H' → g x (wipe σ vs) H' fun σ2 H2 => wipe σ2 vs = wipe σ vs ∧ tt σ2 H2 fun b H3 =>
        if b = true then te σ2 H3 fun y H4 => ∃ acc, H4 Dl = some (.lst acc) ∧ acc.length < sizeLine ∧ Nx (upd H4 Dl (.lst (acc ++ [y]))) else Nx H3) := by
  obtain ⟨Gd, Y, w, wg, wy⟩ := W
  have nb : Hb Dl = none := Same.free sb hD
  refine lc_it w (fun i H => Same H1 H ∧ GotM B0 H1 Dl (((l.take i).filter pf).map ff) H) ⟨Same.new hD, [], upd_same, fun _ => none, (fun b o h => nomatch h), rfl, (fun b o h => nomatch h), Paired.nil⟩ (fun i H _ q => wg H (Same.trans sb q.1)) (fun i v H H2 hil ⟨q1, q2⟩ y => ?_) fun H ⟨q1, q2⟩ => ?_
  · obtain ⟨s2, x, e1, e2⟩ := wy i H v H2 (Same.trans sb q1) y hil
    obtain ⟨xs, g1, Hc, g2, g3, g4, g5⟩ := q2
    have tk : l.take (i + 1) = l.take i ++ [x] := by
      have hi := (List.getElem?_eq_some_iff.mp e1)
      obtain ⟨h1, h2⟩ := hi
      rw [List.take_succ, e1]
      rfl
    refine hs i x v H2 e1 e2 (Same.trans q1 s2) ⟨xs, s2 _ _ g1⟩ _ (fun H3 s3 hf => ⟨Same.trans (Same.trans q1 s2) s3, xs, s3 _ _ (s2 _ _ g1), Hc, Same.trans (Same.trans g2 s2) s3, g3, g4, ?_⟩) fun H3 yv s3 hf ry => ⟨xs, s3 _ _ (s2 _ _ g1), ?_, ?_⟩
    · rw [tk, List.filter_append]
      rw [List.filter_cons, if_neg (by rw [hf]; decide)]
      simpa using g5
    · have h1 := A2.len g5
      rw [← h1, List.length_map]
      have h2 := List.length_filter_le pf (l.take i)
      rw [List.length_take] at h2
      have : sizeLine = 16777216 := by decide
      omega
    · have sB2 : Same B0 H2 := Same.trans sB (Same.trans q1 s2)
      have cutD : reb B0 H2 H3 Dl = none := by
        unfold reb
        rw [Same.free sB hD]
        show cut H2 H3 Dl = none
        unfold cut
        rw [s2 _ _ g1]
      have q1' : Same H1 (upd H3 Dl (.lst (xs ++ [yv]))) := fun b o e => by
        rw [upd_ne (ne_of_none e hD)]
        exact s3 _ _ (s2 _ _ (q1 b o e))
      let Hn : Hp := fun b => match Hc b with
        | some o => some o
        | none => reb B0 H2 H3 b
      have hn1 : Same Hc Hn := fun b o e => by
        show (match Hc b with | some o => some o | none => reb B0 H2 H3 b) = some o
        rw [e]
      have hn2 : Same (reb B0 H2 H3) Hn := fun b o e => by
        show (match Hc b with | some o => some o | none => reb B0 H2 H3 b) = some o
        cases h : Hc b with
        | none => exact e
        | some u =>
          have h3 : H3 b = some u := s3 _ _ (s2 _ _ (g2 b u h))
          rw [reb_le sB2 s3 b o e] at h3
          cases h3
          rfl
      refine ⟨q1', xs ++ [yv], upd_same, Hn, fun b o e => ?_, ?_, fun b o e => ?_, ?_⟩
      · have e : (match Hc b with | some o => some o | none => reb B0 H2 H3 b) = some o := e
        have nd : b ≠ Dl := fun z => by
          subst z
          rw [g3] at e
          rw [cutD] at e
          cases e
        rw [upd_ne nd]
        cases h : Hc b with
        | none => rw [h] at e; exact reb_le sB2 s3 b o e
        | some u => rw [h] at e; cases e; exact s3 _ _ (s2 _ _ (g2 b _ h))
      · show (match Hc Dl with | some o => some o | none => reb B0 H2 H3 Dl) = none
        rw [g3]
        exact cutD
      · have e : (match Hc b with | some o => some o | none => reb B0 H2 H3 b) = some o := e
        cases h : Hc b with
        | some u => rw [h] at e; cases e; exact g4 b _ h
        | none =>
          rw [h] at e
          have e : reb B0 H2 H3 b = some o := e
          unfold reb at e
          cases hB : B0 b with
          | some w => rw [hB] at e; exact .inl e
          | none =>
            rw [hB] at e
            have e : cut H2 H3 b = some o := e
            unfold cut at e
            cases h2 : H2 b with
            | none => exact .inr (.inl (Same.free (Same.trans q1 s2) h2))
            | some u =>
              rw [h2] at e
              cases u <;> first
                | (cases e; done)
                | (cases e; exact .inr (.inr ⟨_, rfl⟩))
      · rw [tk, List.filter_append, List.map_append]
        refine Paired.app (g5.mono hn1) ?_
        rw [List.filter_cons, if_pos hf]
        exact .cons (Ty.mono hn2 ry) .nil
  · obtain ⟨xs, g1, Hc, g2, g3, g4, g5⟩ := q2
    rw [List.take_length] at g5
    refine hd H q1 ⟨Dl, xs, rfl, reb_cut sB _ _ (cut_new hD g1), A2.mono (fun b o e => ?_) g5⟩
    rcases g4 b o e with h | h | ⟨ys, rfl⟩
    · exact reb_old b o h
    · exact reb_cut sB _ _ (cut_new h (g2 b o e))
    · exact reb_cut sB _ _ (keep_cut q1 _ _ (g2 b _ e))
section
variable {X : Cx} {H0 He : Hp} {G : List Slot} {e a b c o tg : Expr} {es : List Expr} {pos p apos : Pos} {ρ : Res} {R : Ars} {D : Ends} {st : Stmt} {rest body els : List Stmt}
theorem E.mixN {B0 : Hp} (hB : Same B0 H0) {α : Type} [Ty α] {x : α} (h : E X H0 G e (New x)) : E X H0 G e (Mix B0 x) := fun σ H Q h0 q => h σ H Q h0 fun v H' s p => q v H' s (Ty.mono (reb_cut (Same.trans hB h0.same)) p)
/-- a list of ints by its address -/
structure RowA where
  a : Addr
  l : List Int
instance : Im RowA where
  r x v _ := v = .ref x.a
  mono _ h := h
  keep _ h := h
/-- an address -/
structure Adr where
  a : Addr
instance : Im Adr where
  r x v _ := v = .ref x.a
  mono _ h := h
  keep _ h := h
def RowA.at (x : RowA) (H : Hp) : Prop := H x.a = some (.lst (x.l.map V.int))
theorem E.row {x : RowA} (h : E X H0 G e (Val x)) (hb : x.at H0) : E X H0 G e (Old H0 (Lst.mk x.l)) := h.weak fun _ v _ _ p => ⟨x.a, _, p, hb, A2.of_ints⟩
theorem E.rowM {B0 : Hp} {x : RowA} (h : E X H0 G e (Val x)) (hb : x.at B0) : E X H0 G e (Mix B0 (Lst.mk x.l)) := h.weak fun _ v _ _ p => ⟨x.a, _, p, reb_old _ _ hb, A2.of_ints⟩
/-- rows by their addresses -/
theorem rowsA {H : Hp} : ∀ {l : List (List Int)} {xs : List V}, A2 (l.map Lst.mk) xs H → ∃ ra : List RowA, ra.map (·.l) = l ∧ xs = ra.map (fun x => V.ref x.a) ∧ ∀ x ∈ ra, x.at H
  | [], _, .nil => ⟨[], rfl, rfl, fun _ h => nomatch h⟩
  | a :: l, _, .cons h t => by
    obtain ⟨q, ys, h1, h2, h3⟩ := h
    have h3 := A2.ints (l := a) h3
    obtain ⟨ra, g1, g2, g3⟩ := rowsA t
    refine ⟨⟨q, a⟩ :: ra, by rw [List.map_cons, g1], by rw [List.map_cons, ← g2, h1], fun x hx => ?_⟩
    rcases List.mem_cons.mp hx with rfl | hx
    · show H q = _
      rw [h2, h3]
    · exact g3 x hx
theorem rowsR {H : Hp} : ∀ {ra : List RowA}, (∀ x ∈ ra, x.at H) → A2 ((ra.map (·.l)).map Lst.mk) (ra.map fun x => V.ref x.a) H
  | [], _ => .nil
  | x :: ra, h => .cons ⟨x.a, _, rfl, h x (by simp), A2.of_ints⟩ (rowsR fun y hy => h y (List.mem_cons_of_mem _ hy))
theorem rowsL {H : Hp} {q : Addr} {ra : List RowA} (h : H q = some (.lst (ra.map fun x => V.ref x.a))) : r (Lst.mk ra) (.ref q) H := ⟨q, _, rfl, h, by
  show A2 ra (ra.map fun x => V.ref x.a) H
  clear h
  induction ra with
  | nil => exact .nil
  | cons x ra ih => exact .cons rfl ih⟩
/-- an attribute of the thing at an address that the base has -/
theorem e_fldB {β : Type} [Ty β] {pa dx C : Addr} {fs : List (Str × V)} {u : β} {f : Str} {z : V} (hx : H0 pa = some (.ins C dx fs)) (hc : Cls X.K C) (hn : NoAttr X.K C f) (hl : fs.lookup f = some z) (hr : r u z H0) (ha : E X H0 G a (Val (Adr.mk pa))) (hb : attributeBase a f X.env (eval a X.env) = eval a X.env := by rfl) : E X H0 G (.Attribute a f pos) (Old H0 u) := fun σ H Q h0 q =>
  pe_out (pe_fld pe_in hb) (ha σ H _ h0 fun v H1 s1 p1 => ⟨pa, C, dx, fs, z, p1, s1 _ _ (h0.same _ _ hx), hc, hn, hl, q _ H1 s1 hr⟩)
theorem cut_upd {H H' : Hp} {q : Addr} {o : HO} (h : H q = none) : cut H (upd H' q o) = upd (cut H H') q o := by
  funext b
  by_cases hb : b = q
  · subst hb
    rw [upd_same]
    unfold cut
    rw [h, upd_same]
  · rw [upd_ne hb]
    unfold cut
    cases H b with
    | none => exact upd_ne hb
    | some u => cases u <;> rfl
theorem reb_sub {Hc H0 H H1 : Hp} (s : Same Hc H0) (s0 : Same H0 H) : Same (reb (cut Hc H0) H H1) (cut Hc (reb H0 H H1)) := fun b o e => by
  unfold reb at e
  cases hB : cut Hc H0 b with
  | some u =>
    rw [hB] at e
    have e : some u = some o := e
    cases e
    exact cut_mono reb_old b _ hB
  | none =>
    rw [hB] at e
    have e : cut H H1 b = some o := e
    have hc : Hc b = none ∨ ∃ ys, Hc b = some (.tup ys) ∧ o = .tup ys := by
      cases h : Hc b with
      | none => exact .inl rfl
      | some w =>
        have h1 := s0 _ _ (s b w h)
        unfold cut at e
        rw [h1] at e
        cases w <;> first
          | (cases e; done)
          | (cases e; exact .inr ⟨_, rfl, rfl⟩)
    rcases hc with hc | ⟨ys, hc, rfl⟩
    · have h0 : H0 b = none := by
        unfold cut at hB
        rw [hc] at hB
        exact hB
      unfold cut
      rw [hc]
      show reb H0 H H1 b = some o
      unfold reb
      rw [h0]
      exact e
    · unfold cut
      rw [hc]
theorem lc_tM {B0 : Hp} (hB : Same B0 H0) {iter elt : Expr} {scope : Scope} {γ α : Type} [Im γ] [Ty α] {l : List γ} {js : List Nat} {up : γ → List Slot → List Slot} {ff : γ → α} (own : List (Str × Nat)) (hN : X.N.Nodup) (hi : EI X H0 G tg iter l) (hlen : l.length < 100000)
    (hg : ∀ (s : Shared) (H : Hp) (C : Addr) (cl : List (Str × Addr)) (fp : List Addr), Tgt (X.blk s H scope (compEnvC scope cl C X.env) fp) tg js up)
    (he : ∀ (s : Shared) (H : Hp) (C : Addr) (cl : List (Str × Addr)) (fp : List Addr) (H0' : Hp), Same H0 H0' → ∀ x, x ∈ l → E (X.blk s H scope (compEnvC scope cl C X.env) fp) H0' (up x (wipeG G (own.map (·.2)))) elt (Mix B0 (ff x)))
    (ok : blkC X.N X.env.scope scope own = true := by kernel_rfl) (hj : ∀ j ∈ js, j ∈ own.map (·.2) := by decide) (hc : X.calm = true := by rfl) (hs : ∀ x, foldedSetIterable iter X.env x = pure x := by intro _; rfl) : ∀ σ H (Q : VK), At H0 G σ H → (∀ v H', Same H H' → (Mix B0 (Lst.mk (l.map ff))).p H v H' → Q v H') → tLc (tI X tg iter) (gB X scope tg) tYes (eB X scope elt) (own.map (·.2)) σ H Q := fun σ H Q h0 q => by
  refine (hi σ H _ h0 fun J H1 s1 W => ?_)
  intro Dl hD
  have h1 := h0.reb s1
  refine lc_walkM (B0 := B0) (g := gB X scope tg) (te := eB X scope elt) (tt := tYes) (vs := own.map (·.2)) (σ := σ) (Qd := Q (.ref Dl)) (fun _ => true) ff W (reb_le h0.same s1) (Same.trans hB (Same.trans h0.same s1)) hD hlen (fun i x v H2 e1 e2 sb hl Nx n1 n2 => ?_) (fun H2 s2 rr => ?_)
  · intro s H' C cl fp
    refine hg s H' C cl fp x v _ _ _ H2 _ e2 ((h1.ext sb).wipe (own.map (·.2))) fun σ2 a3 hw => ⟨by rw [hw _ hj, wipe_wipe], ?_⟩
    unfold tYes
    refine iteT ?_
    intro s' H'' C' cl' fp'
    exact he s' H'' C' cl' fp' _ reb_old x (List.mem_of_getElem? e1) σ2 H2 _ a3 fun y H5 s5 p5 => n2 H5 y s5 rfl p5
  · rw [show l.filter (fun _ => true) = l by simp] at rr
    exact q _ H2 (Same.trans s1 s2) ((Mix B0 (Lst.mk (l.map ff))).anti s1 s2 rr)
theorem e_lcM {B0 : Hp} (hB : Same B0 H0) {iter elt : Expr} {scope : Scope} {γ α : Type} [Im γ] [Ty α] {l : List γ} {js : List Nat} {up : γ → List Slot → List Slot} {ff : γ → α} (own : List (Str × Nat)) (hN : X.N.Nodup) (hi : EI X H0 G tg iter l) (hlen : l.length < 100000)
    (hg : ∀ (s : Shared) (H : Hp) (C : Addr) (cl : List (Str × Addr)) (fp : List Addr), Tgt (X.blk s H scope (compEnvC scope cl C X.env) fp) tg js up)
    (he : ∀ (s : Shared) (H : Hp) (C : Addr) (cl : List (Str × Addr)) (fp : List Addr) (H0' : Hp), Same H0 H0' → ∀ x, x ∈ l → E (X.blk s H scope (compEnvC scope cl C X.env) fp) H0' (up x (wipeG G (own.map (·.2)))) elt (Mix B0 (ff x)))
    (ok : blkC X.N X.env.scope scope own = true := by kernel_rfl) (hj : ∀ j ∈ js, j ∈ own.map (·.2) := by decide) (hc : X.calm = true := by rfl) (hs : ∀ x, foldedSetIterable iter X.env x = pure x := by intro _; rfl) : E X H0 G (.ListComp elt [⟨tg, iter, [], 0⟩] scope pos) (Mix B0 (Lst.mk (l.map ff))) := fun σ H Q h0 q =>
  pe_out (pe_lc (g := gB X scope tg) (te := eB X scope elt) hc hN pi_in (blkOk_by ok)
    (fun s H C cl fp => ⟨fun pins s1 σ1 H1 v u Q I rv h => h s H C cl fp pins s1 u I rv⟩) (fun _ _ _ _ _ => pts_nil) (fun s H C cl fp => ⟨fun pins s1 σ1 H1 Q I h => h s H C cl fp pins s1 I⟩) hs) (lc_tM hB own hN hi hlen hg he ok hj hc hs σ H Q h0 q)
end
end Lk

/-! LkV -/
set_option Elab.async false
set_option linter.all false
set_option maxRecDepth 100000
set_option maxHeartbeats 4000000
set_option autoImplicit false
/-! Solving: what is read. -/
namespace Lk
open PySem PySem.Spec PyProof.Rows L2
open Ty (r)
structure Sol (K : PySem.W.Frag) where
  field : Int
  width : Int
  lines : List (List Int)
  lineOf : List (Int × Int)
def solFs (fl wd : Int) (vl vd : V) : List (Str × V) := [("field", V.int fl), ("width", V.int wd), ("lines", vl), ("line_of", vd)]
def SolAt (K : PySem.W.Frag) (s : Sol K) (p : Addr) (H : Hp) : Prop := ∃ dx vl vd, H p = some (.ins (He.ga K "Solving") dx (solFs s.field s.width vl vd)) ∧ r (Lst.mk (s.lines.map Lst.mk)) vl H ∧ r (Dic.mk s.lineOf) vd H
theorem SolAt.mono {K : PySem.W.Frag} {s : Sol K} {p : Addr} {H H' : Hp} (e : Same H H') (h : SolAt K s p H) : SolAt K s p H' := let ⟨dx, vl, vd, h1, h2, h3⟩ := h; ⟨dx, vl, vd, e _ _ h1, Ty.mono e h2, Ty.mono e h3⟩
instance (K : PySem.W.Frag) : Ty (Sol K) where
  r s v H := ∃ p, v = .ref p ∧ SolAt K s p H
  mono e h := let ⟨p, h1, h2⟩ := h; ⟨p, h1, h2.mono e⟩
section
variable {P : Program} {w : World} {K : PySem.W.Frag} {mg : Str → Option Value} {base : Heap}
theorem sf_field {fl wd : Int} {vl vd : V} : (solFs fl wd vl vd).lookup ("field" : Str) = some (V.int fl) := by rfl
theorem sf_width {fl wd : Int} {vl vd : V} : (solFs fl wd vl vd).lookup ("width" : Str) = some (V.int wd) := by rfl
theorem sf_lines {fl wd : Int} {vl vd : V} : (solFs fl wd vl vd).lookup ("lines" : Str) = some vl := by rfl
theorem sf_lineOf {fl wd : Int} {vl vd : V} : (solFs fl wd vl vd).lookup ("line_of" : Str) = some vd := by rfl
theorem sol_width (T : Tx K mg) (s : Sol K) : ∀ v H, r s v H → ∃ C fs z, IsIns C fs v H ∧ Cls K C ∧ NoAttr K C "width" ∧ fs.lookup ("width" : Str) = some z ∧ r s.width z H := fun v H ⟨p, e, dx, vl, vd, h1, h2, h3⟩ => ⟨_, _, _, ⟨p, dx, e, h1⟩, T.c_Solving, T.a_Solving_width, sf_width, rfl⟩
theorem sol_lines (T : Tx K mg) (s : Sol K) : ∀ v H, r s v H → ∃ C fs z, IsIns C fs v H ∧ Cls K C ∧ NoAttr K C "lines" ∧ fs.lookup ("lines" : Str) = some z ∧ r (Lst.mk (s.lines.map Lst.mk)) z H := fun v H ⟨p, e, dx, vl, vd, h1, h2, h3⟩ => ⟨_, _, _, ⟨p, dx, e, h1⟩, T.c_Solving, T.a_Solving_lines, sf_lines, h2⟩
theorem sol_lineOf (T : Tx K mg) (s : Sol K) : ∀ v H, r s v H → ∃ C fs z, IsIns C fs v H ∧ Cls K C ∧ NoAttr K C "line_of" ∧ fs.lookup ("line_of" : Str) = some z ∧ r (Dic.mk s.lineOf) z H := fun v H ⟨p, e, dx, vl, vd, h1, h2, h3⟩ => ⟨_, _, _, ⟨p, dx, e, h1⟩, T.c_Solving, T.a_Solving_line_of, sf_lineOf, h3⟩
theorem sol_no (nm : Str) (h : ∀ (fl wd : Int) (vl vd : V), (solFs fl wd vl vd).lookup nm = none) (s : Sol K) : ∀ v H, r s v H → ∃ fs, IsIns (He.ga K "Solving") fs v H ∧ fs.lookup nm = none := fun v H ⟨p, e, dx, vl, vd, h1, h2, h3⟩ => ⟨_, ⟨p, dx, e, h1⟩, h _ _ _ _⟩
def entry (l : List Int) (i : Int) : Int := (atI l i).getD 0
def lineAt (s : Sol K) (column : Int) : List Int := (atI s.lines ((dget s.lineOf column).getD 0)).getD []
def othersIn (s : Sol K) (column : Int) : List Int := ((rng 0 s.width.toNat).filter fun other => !decide (other = column) && !decide (entry (lineAt s column) other = 0)).map fun other => other
structure LineOk (s : Sol K) (column : Int) : Prop where
  wd : 0 ≤ s.width ∧ s.width < 10000
  c1 : (dget s.lineOf column).isSome = true
  c2 : (atI s.lines ((dget s.lineOf column).getD 0)).isSome = true
  c3 : ∀ i ∈ rng 0 s.width.toNat, (atI (lineAt s column) i).isSome = true
theorem atI_map {α β : Type} {f : α → β} {l : List α} {i : Int} : atI (l.map f) i = (atI l i).map f := by
  unfold atI
  rw [List.length_map]
  cases ixN l.length i with
  | none => rfl
  | some j => show (l.map f)[j]? = (l[j]?).map f; rw [List.getElem?_map]
theorem line_at {s : Sol K} {column : Int} (h : (atI s.lines ((dget s.lineOf column).getD 0)).isSome = true) : atI (s.lines.map Lst.mk) ((dget s.lineOf column).getD 0) = some (Lst.mk (lineAt s column)) := by
  rw [atI_map, some_getD (d := []) h]
  rfl
theorem ok_Solving_others_in (T : Tx K mg) : CalM P w K mg base 1 (He.ga K "Solving") "others_in" ["self", "column"] (spG (fun i : ((Sol K)) × Int => (.cons i.1 (.cons i.2 .nil))) (fun i => (fun (self : (Sol K)) (column : Int) => LineOk self column) i.1 i.2) fun i => (fun (self : (Sol K)) (column : Int) => New (Lst.mk (othersIn self column))) i.1 i.2) := by
  obtain ⟨fd, F⟩ := T.f_Solving_others_in
  refine calM_of F T.e_Solving_others_in T.c_Solving (fn_ok (fun i => [.old (i.1), .im (i.2)]) 2 F sc_Solving_others_in (fun i => (ent_old (ent_im ent_nil))) (fun _ => rfl) (fun _ => rfl) fun cdv A outer s H Ex i hr hp => ?_) (fun _ _ _ _ _ _ us hl => match us, hl with | [_, _], _ => rfl)
  obtain ⟨self, column⟩ := i
  have hp : LineOk self column := hp
  obtain ⟨h0, h1, h2, h3⟩ := hp
  refine b_setOld 2 (e_ixO (line_at h2) (e_fldO (sol_lines T self) (e_old 0)) (e_getK hr (some_getD h1) (e_fldO (sol_lineOf T self) (e_old 0)).ofOld (e_var 1))) ?_ sc_Solving_others_in.nd
  exact b_ret (e_lcI [("other", 3)] sc_Solving_others_in.nd (ei_rng1 T.m_range (e_fldO (sol_width T self) (e_old 0)).ofOld (by show -(2 ^ 62) ≤ self.width ∧ self.width < 2 ^ 62; omega)) (by rw [rng_len]; show self.width.toNat < _; omega) (fun s H C cl fp => tgt_name 3 sc_Solving_others_in.nd) (fun s H C cl fp H0' hs x hx => et_w (ew_and (et_ne (e_var 3) (e_var 1)) fun _ => ew_and1 (et_ne (e_ixL (some_getD (d := 0) (h3 x hx)) (e_old 2).ofOld (e_var 3)) e_int))) (fun s H C cl fp H0' hs x hx ht => E.fresh (e_var 3))) (Same.refl _)
def isSingle (s : Sol K) (column : Int) : Bool := (dget s.lineOf column).isSome && decide (othersIn s column = [])
theorem ok_Solving_is_single (T : Tx K mg) : CalM P w K mg base 2 (He.ga K "Solving") "is_single" ["self", "column"] (spG (fun i : ((Sol K)) × Int => (.cons i.1 (.cons i.2 .nil))) (fun i => (fun (self : (Sol K)) (column : Int) => (dget self.lineOf column).isSome = true → LineOk self column) i.1 i.2) fun i => (fun (self : (Sol K)) (column : Int) => Val (isSingle self column)) i.1 i.2) := by
  obtain ⟨fd, F⟩ := T.f_Solving_is_single
  refine calM_of F T.e_Solving_is_single T.c_Solving (fn_ok (fun i => [.old (i.1), .im (i.2)]) 0 F sc_Solving_is_single (fun i => (ent_old (ent_im ent_nil))) (fun _ => rfl) (fun _ => rfl) fun cdv A outer s H Ex i hr hp => ?_) (fun _ _ _ _ _ _ us hl => match us, hl with | [_, _], _ => rfl)
  obtain ⟨self, column⟩ := i
  have hp : (dget self.lineOf column).isSome = true → LineOk self column := hp
  refine b_ret (e_and (e_inK hr (e_var 1) (e_fldO (sol_lineOf T self) (e_old 0)).ofOld) fun h => e_one (e_eqL (l := othersIn self column) (k := []) hr (E.val ?_) (E.val e_lst0))) (Same.refl _)
  exact e_meth (ok_Solving_others_in T) hr (self, column) (hp h) (sol_no "others_in" (fun _ _ _ _ => by rfl) self) (e_old 0).ofOld (ea_cons (e_var 1) ea_nil)
def behindI (s : Sol K) (column : Int) : List Int := cutL (lineAt s column) (some s.width) none
theorem ok_Solving_behind (T : Tx K mg) : CalM P w K mg base 1 (He.ga K "Solving") "behind" ["self", "column"] (spG (fun i : ((Sol K)) × Int => (.cons i.1 (.cons i.2 .nil))) (fun i => (fun (self : (Sol K)) (column : Int) => LineOk self column) i.1 i.2) fun i => (fun (self : (Sol K)) (column : Int) => New (Lst.mk (behindI self column))) i.1 i.2) := by
  obtain ⟨fd, F⟩ := T.f_Solving_behind
  refine calM_of F T.e_Solving_behind T.c_Solving (fn_ok (fun i => [.old (i.1), .im (i.2)]) 0 F sc_Solving_behind (fun i => (ent_old (ent_im ent_nil))) (fun _ => rfl) (fun _ => rfl) fun cdv A outer s H Ex i hr hp => ?_) (fun _ _ _ _ _ _ us hl => match us, hl with | [_, _], _ => rfl)
  obtain ⟨self, column⟩ := i
  have hp : LineOk self column := hp
  obtain ⟨h0, h1, h2, h3⟩ := hp
  exact b_ret (e_sliceL (e_ixO (line_at h2) (e_fldO (sol_lines T self) (e_old 0)) (e_getK hr (some_getD h1) (e_fldO (sol_lineOf T self) (e_old 0)).ofOld (e_var 1))).ofOld (eo_some (e_fldO (sol_width T self) (e_old 0)).ofOld) eo_none) (Same.refl _)
end
end Lk

/-! LkW -/
set_option Elab.async false
set_option linter.all false
set_option maxRecDepth 100000
set_option maxHeartbeats 4000000
set_option autoImplicit false
/-! Solving.clear -/
namespace Lk
open PySem PySem.Spec PyProof.Rows L2
open Ty (r)
/-! ### the solving's things one by one -/
structure SolF (K : PySem.W.Frag) (s : Sol K) (p dx L Dd : Addr) (ra : List RowA) (C : Hp) : Prop where
  ins : C p = some (.ins (He.ga K "Solving") dx (solFs s.field s.width (.ref L) (.ref Dd)))
  lst : C L = some (.lst (ra.map fun x => V.ref x.a))
  rows : ∀ x ∈ ra, x.at C
  eq : ra.map (·.l) = s.lines
  dic : ∃ kvs, C Dd = some (.dK kvs) ∧ KVs s.lineOf kvs C
theorem KVs.intsK {l : List (Int × Int)} {kvs : List (Key × V)} {H H' : Hp} (h : KVs l kvs H) : KVs l kvs H' := Paired.mapP h fun _ _ q => q
theorem SolF.mono {K : PySem.W.Frag} {s : Sol K} {p dx L Dd : Addr} {ra : List RowA} {C C' : Hp} (h : SolF K s p dx L Dd ra C) (e : Same C C') : SolF K s p dx L Dd ra C' :=
  ⟨e _ _ h.ins, e _ _ h.lst, fun x hx => e _ _ (h.rows x hx), h.eq, let ⟨k, h1, h2⟩ := h.dic; ⟨k, e _ _ h1, h2.intsK⟩⟩
theorem SolAt.f {K : PySem.W.Frag} {s : Sol K} {p : Addr} {C : Hp} (h : SolAt K s p C) : ∃ dx L Dd ra, SolF K s p dx L Dd ra C := by
  obtain ⟨dx, vl, vd, h1, ⟨L, xs, rfl, h2, h3⟩, Dd, kvs, rfl, h4, h5⟩ := h
  obtain ⟨ra, g1, g2, g3⟩ := rowsA h3
  exact ⟨dx, L, Dd, ra, h1, by rw [h2, g2], g3, g1, kvs, h4, h5⟩
theorem SolF.at {K : PySem.W.Frag} {s : Sol K} {p dx L Dd : Addr} {ra : List RowA} {C : Hp} (h : SolF K s p dx L Dd ra C) : SolAt K s p C :=
  ⟨dx, .ref L, .ref Dd, h.ins, ⟨L, _, rfl, h.lst, by rw [← h.eq]; exact rowsR h.rows⟩, let ⟨k, h1, h2⟩ := h.dic; ⟨Dd, k, rfl, h1, h2⟩⟩
theorem rowNe {ra : List RowA} {L : Addr} {C : Hp} {x : RowA} (hn : ra ≠ []) (h : C L = some (.lst (ra.map fun x => V.ref x.a))) (hx : x.at C) : x.a ≠ L := fun e => by
  unfold RowA.at at hx
  rw [e, h] at hx
  injection hx with hx
  injection hx with hx
  cases ra with
  | nil => exact hn rfl
  | cons y ra =>
    cases hl : x.l with
    | nil => rw [hl] at hx; cases hx
    | cons z l => rw [hl] at hx; injection hx with h1 _; cases h1
def lineNo (lines : List (List Int)) (i : Int) : List Int := (atI lines i).getD []
def spotsOf (lines : List (List Int)) (at' column : Int) : List Int := ((rng at' ((lines.length : Int) - at').toNat).filter fun spot => !decide (entry (lineNo lines spot) column = 0)).map fun spot => spot
def clrLines (p : Int) (lines : List (List Int)) (at' j : Nat) (column : Int) : List (List Int) :=
  let L1 := (lines.set at' (lineNo lines j)).set j (lineNo lines at')
  let own := (lineNo L1 at').map fun m => m * inverseI p (entry (lineNo L1 at') column) % p
  (L1.map fun line => if decide (entry line column = 0) = true then line else lessI p line own (entry line column)).set at' own
def clearS {K : PySem.W.Frag} (s : Sol K) (column : Int) : Sol K := match spotsOf s.lines s.lineOf.length column with
  | [] => s
  | j :: _ => { s with lines := clrLines s.field s.lines s.lineOf.length j.toNat column, lineOf := dput s.lineOf column s.lineOf.length }
structure SolIn {K : PySem.W.Frag} (s : Sol K) (n : Nat) : Prop where
  p0 : smallP s.field
  rows : ∀ l ∈ s.lines, l.length = n ∧ ∀ x ∈ l, (0 : Int) ≤ x ∧ x < s.field
  ll : s.lines.length < 1000
  dl : s.lineOf.length < 1000
  nl : n < 1000
theorem solFs_put {fl wd : Int} {vl vd y : V} : putF ("lines" : Str) y (solFs fl wd vl vd) = solFs fl wd y vd := by rfl
section
variable {X : Cx} {H0 He Hc : Hp} {G G' : List Slot} {e a b c o tg i : Expr} {es : List Expr} {pos p p1 p2 apos : Pos} {D : Ends} {st : Stmt} {rest body els : List Stmt}
theorem b_retNone' (h : ∀ σ H, At H0 G σ H → D.rt .non H) : B X H0 G (.Return none pos :: rest) D := B.seq fun σ H h0 => ps_out ps_retN (h σ H h0)
/-- x = e, a new list of ints, by its address -/
theorem b_setRow (i : Nat) {x : List Int} {n : Str} {p' : Pos} (he : E X H0 G e (New (Lst.mk x))) (hr : ∀ H0' q, Same H0 H0' → H0 q = none → (RowA.mk q x).at H0' → B X H0' (G.set i (.im (RowA.mk q x))) rest D) (hN : X.N.Nodup) (hi : X.N[i]? = some n := by rfl) (hx : Loc X.env.scope n := by first | exact Or.inl rfl | exact Or.inr rfl) (hs : swapsWith e (some (.Name n p')) pos.line X.env = pure false := by rfl)
    (hf : X.fn n = true ∨ X.env.scope.names.lookup n = some .local := by first | exact .inl rfl | exact .inr rfl) : B X H0 G (.Assign [.Name n p'] e pos :: rest) D := B.seq fun σ H h0 => ps_out (ps_set hN hi hx pe_in hs hf) (he σ H _ h0 fun v H1 s1 ⟨q, xs, ev, e1, e2⟩ => by
  have nq : H q = none := new_free e1 fun _ z => nomatch z
  have e2 := A2.ints (l := x) e2
  subst ev e2
  exact hr (reb H0 H H1) q reb_old (Same.free h0.same nq) (reb_cut h0.same _ _ e1) _ H1 ((h0.reb s1).set (s := .im (RowA.mk q x)) rfl fun z => z))
/-- a.f = e -/
theorem b_fld {ρ : Res} {f : Str} {pa dx C : Addr} {fs : List (Str × V)} (he : E X H0 G e ρ) (hx : H0 pa = some (.ins C dx fs)) (hc : Cls X.K C) (hn : NoAttr X.K C f) (hl : fs.length < 1000) (ha : ∀ H0', Same H0 H0' → E X H0' G a (Val (Adr.mk pa)))
    (hr : ∀ H H1 v, Same H0 H → Same H H1 → ρ.p H v H1 → ∃ G', Chg (reb H0 H H1) (upd (reb H0 H H1) pa (.ins C dx (putF f v fs))) G G' ∧ B X (upd (reb H0 H H1) pa (.ins C dx (putF f v fs))) G' rest D)
    (hs : swapsWith e (some (.Attribute a f p)) pos.line X.env = pure false := by rfl) : B X H0 G (.Assign [.Attribute a f p] e pos :: rest) D := B.seq fun σ H h0 => ps_out (ps_fld pe_in pe_in hs) (he σ H _ h0 fun v H1 s1 p1 => ha _ reb_old σ H1 _ (h0.reb s1) fun w H2 s2 p2 => by
  obtain ⟨G', c1, b1⟩ := hr H H1 v h0.same s1 p1
  have a2 := (h0.reb s1).ext s2
  have hp := reb_old (H := H) (H1 := H1) pa _ hx
  exact ⟨pa, C, dx, fs, p2, a2.same _ _ hp, hc, hn, hl, b1 σ _ (a2.upd0 hp (fun _ z => nomatch z) c1)⟩)
/-- o[i] = e, a list of the base -/
theorem b_item {α : Type} [Im α] {u : α} {q : Addr} {xs : List V} {j : Nat} (he : E X H0 G e (Val u)) (hx : H0 q = some (.lst xs)) (hj : j < xs.length) (ho : E X H0 G o (Val (Adr.mk q))) (hi : E X H0 G i (Val (j : Int)))
    (hr : ∀ v, (∀ H, Same H0 H → r u v H → ∃ G', Chg H0 (upd H0 q (.lst (xs.set j v))) G G' ∧ B X (upd H0 q (.lst (xs.set j v))) G' rest D))
    (hs : swapsWithSole [.Subscript o i p] e pos.line X.env = pure false := by rfl) (hw : swappedStores [.Subscript o i p] e X.env = pure none := by rfl) (has : ∀ v, assign (.Subscript o i p) X.env v = (do
      let ov ← holding [v] (eval o X.env)
      let iv ← holding [v, ov] (eval i X.env)
      standAt p
      holding [v, ov, iv] (setItem ov iv v)
      release [v, ov, iv] []) := by intro _; rfl) (hae : (assignEach [.Subscript o i p] X.env).map (·.2) = [assign (.Subscript o i p) X.env] := by rfl) : B X H0 G (.Assign [.Subscript o i p] e pos :: rest) D := B.seq fun σ H h0 => ps_out (ps_asg pe_in (pg_sub pe_in pe_in set_list has) hs hw hae) (he σ H _ h0 fun v H1 s1 p1 => ho σ H1 _ (h0.ext s1) fun w H2 s2 p2 => hi σ H2 _ ((h0.ext s1).ext s2) fun z H3 s3 p3 => by
  have a3 := ((h0.ext s1).ext s2).ext s3
  have p2 : w = .ref q := p2
  have p3 : z = .int (j : Int) := p3
  subst p2 p3
  obtain ⟨G', c1, b1⟩ := hr v H1 (h0.ext s1).same p1
  refine ⟨q, xs, j, j, rfl, rfl, a3.same _ _ hx, ?_, b1 σ _ (a3.upd0 hx (fun _ z => nomatch z) c1)⟩
  unfold ixN
  rw [if_pos (by omega), if_pos (by omega), Int.toNat_natCast])
/-- o[i], o[j] = u, v, a list of the base -/
theorem b_item2 {α : Type} [Im α] {u w : α} {q : Addr} {xs : List V} {j k : Nat} {o2 i2 : Expr} {pt : Pos} {kt k2 : Nat} {pt2 : Pos} (he : E X H0 G e (Val u)) (he2 : E X H0 G a (Val w)) (hx : H0 q = some (.lst xs)) (hj : j < xs.length) (hk : k < xs.length) (ho : E X H0 G o (Val (Adr.mk q))) (hi : E X H0 G i (Val (j : Int)))
    (hc : X.calm = true) (hr : ∀ v v2, (∀ H, Same H0 H → r u v H → r w v2 H → ∃ G', Chg H0 (upd H0 q (.lst (xs.set j v))) G G' ∧ E X (upd H0 q (.lst (xs.set j v))) G' o2 (Val (Adr.mk q)) ∧ E X (upd H0 q (.lst (xs.set j v))) G' i2 (Val (k : Int)) ∧
      ∃ G'', Chg (upd H0 q (.lst (xs.set j v))) (upd (upd H0 q (.lst (xs.set j v))) q (.lst ((xs.set j v).set k v2))) G' G'' ∧ B X (upd (upd H0 q (.lst (xs.set j v))) q (.lst ((xs.set j v).set k v2))) G'' rest D))
    (hst : starEach [e, a] X.env = (false, eval e X.env) :: starEach [a] X.env := by rfl) (hst2 : starEach [a] X.env = (false, eval a X.env) :: starEach [] X.env := by rfl)
    (hs : swapsWithSole [.Tuple [.Subscript o i p, .Subscript o2 i2 p1] kt pt] (.Tuple [e, a] k2 pt2) pos.line X.env = pure false := by rfl) (hw : swappedStores [.Tuple [.Subscript o i p, .Subscript o2 i2 p1] kt pt] (.Tuple [e, a] k2 pt2) X.env = pure none := by rfl)
    (has : ∀ v, assign (.Subscript o i p) X.env v = (do
      let ov ← holding [v] (eval o X.env)
      let iv ← holding [v, ov] (eval i X.env)
      standAt p
      holding [v, ov, iv] (setItem ov iv v)
      release [v, ov, iv] []) := by intro _; rfl) (has2 : ∀ v, assign (.Subscript o2 i2 p1) X.env v = (do
      let ov ← holding [v] (eval o2 X.env)
      let iv ← holding [v, ov] (eval i2 X.env)
      standAt p1
      holding [v, ov, iv] (setItem ov iv v)
      release [v, ov, iv] []) := by intro _; rfl) : B X H0 G (.Assign [.Tuple [.Subscript o i p, .Subscript o2 i2 p1] kt pt] (.Tuple [e, a] k2 pt2) pos :: rest) D := B.seq fun σ H h0 =>
  ps_out (ps_asg (pe_tup (pa_cons pe_in (pa_cons pe_in pa_nil hst2) hst)) (pg_tup hc (pgs_cons (pg_sub pe_in pe_in set_list has) (pgs_cons (pg_sub pe_in pe_in set_list has2) pgs_nil))) hs hw) (he σ H _ h0 fun v H1 s1 q1 => he2 σ H1 _ (h0.ext s1) fun v2 H2 s2 q2 => ⟨szl (by show (2 : Nat) < 1000000; decide), fun m hm => ⟨m, [v, v2], rfl, .inl (.inl upd_same), rfl, v, [v2], rfl, by
    have a2 := ((h0.ext s1).ext s2).ext (Same.new (o := .tup [v, v2]) hm)
    have ru : r u v (upd H2 m (.tup [v, v2])) := Ty.mono (Same.new hm) (Ty.mono s2 q1)
    have rw' : r w v2 (upd H2 m (.tup [v, v2])) := Ty.mono (Same.new hm) q2
    obtain ⟨G', c1, e1, e2, G'', c2, b2⟩ := hr v v2 _ a2.same ru rw'
    refine ho σ _ _ a2 fun w1 H3 s3 p3 => hi σ H3 _ (a2.ext s3) fun w2 H4 s4 p4 => ?_
    have a4 := (a2.ext s3).ext s4
    have p3 : w1 = .ref q := p3
    have p4 : w2 = .int (j : Int) := p4
    subst p3 p4
    refine ⟨q, xs, j, j, rfl, rfl, a4.same _ _ hx, by unfold ixN; rw [if_pos (by omega), if_pos (by omega), Int.toNat_natCast], v2, [], rfl, ?_⟩
    have a5 := a4.upd0 hx (fun _ z => nomatch z) c1
    refine e1 σ _ _ a5 fun w1 H5 s5 p5 => e2 σ H5 _ (a5.ext s5) fun w2 H6 s6 p6 => ?_
    have a6 := (a5.ext s5).ext s6
    have p5 : w1 = .ref q := p5
    have p6 : w2 = .int (k : Int) := p6
    subst p5 p6
    have hx2 : upd H0 q (.lst (xs.set j v)) q = some (.lst (xs.set j v)) := upd_same
    refine ⟨q, xs.set j v, k, k, rfl, rfl, a6.same _ _ hx2, by unfold ixN; rw [if_pos (by omega), if_pos (by rw [List.length_set]; omega), Int.toNat_natCast], rfl, ?_⟩
    exact b2 σ _ (a6.upd0 hx2 (fun _ z => nomatch z) c2)⟩⟩)
/-- d[i] = e, a dict of the base -/
theorem b_dput {m : Nat} (hm : Room m X.A) {α : Type} [Im α] {u : α} {q : Addr} {kvs : List (Key × V)} {x : Int} (he : E X H0 G e (Val u)) (hx : H0 q = some (.dK kvs)) (hl : kvs.length < 1000000) (ho : E X H0 G o (Val (Adr.mk q))) (hi : E X H0 G i (Val x))
    (hr : ∀ v, (∀ H, Same H0 H → r u v H → ∃ G', Chg H0 (upd H0 q (.dK (putK kvs (.inl x) v))) G G' ∧ B X (upd H0 q (.dK (putK kvs (.inl x) v))) G' rest D))
    (hs : swapsWith e (some (.Subscript o i p)) pos.line X.env = pure false := by rfl) : B X H0 G (.Assign [.Subscript o i p] e pos :: rest) D := B.seq fun σ H h0 => ps_out (ps_dput (Rm.u hm) pe_in pe_in pe_in hs) (he σ H _ h0 fun v H1 s1 p1 => ho σ H1 _ (h0.ext s1) fun w H2 s2 p2 => hi σ H2 _ ((h0.ext s1).ext s2) fun z H3 s3 p3 => by
  have a3 := ((h0.ext s1).ext s2).ext s3
  have p2 : w = .ref q := p2
  have p3 : z = .int x := p3
  subst p2 p3
  obtain ⟨G', c1, b1⟩ := hr v H1 (h0.ext s1).same p1
  have hz : kvs.length < sizeLine := by
    have : sizeLine = 16777216 := by decide
    omega
  exact ⟨q, _, rfl, .inl ⟨kvs, .inl x, a3.same _ _ hx, rfl, hz, rfl⟩, b1 σ _ (a3.upd0 hx (fun _ z => nomatch z) c1)⟩)
theorem E.adr {α : Type} [Ty α] {x : α} {q : Addr} (h : E X H0 G e (Old H0 x)) (hq : ∀ v, r x v H0 → v = .ref q) : E X H0 G e (Val (Adr.mk q)) := h.weak fun _ v _ _ p => hq v p
/-- an attribute that holds an address -/
theorem e_fldA {pa dx C : Addr} {fs : List (Str × V)} {f : Str} {q : Addr} (hx : H0 pa = some (.ins C dx fs)) (hc : Cls X.K C) (hn : NoAttr X.K C f) (hl : fs.lookup f = some (.ref q)) (ha : E X H0 G a (Val (Adr.mk pa))) (hb : attributeBase a f X.env (eval a X.env) = eval a X.env := by rfl) : E X H0 G (.Attribute a f pos) (Val (Adr.mk q)) := fun σ H Q h0 k =>
  pe_out (pe_fld pe_in hb) (ha σ H _ h0 fun v H1 s1 p1 => ⟨pa, C, dx, fs, _, p1, s1 _ _ (h0.same _ _ hx), hc, hn, hl, k _ H1 s1 rfl⟩)
/-- what stands at an address that a thing holds -/
theorem E.there {α : Type} [Ty α] {x : α} {q : Addr} (h : E X H0 G e (Val (Adr.mk q))) (hq : r x (.ref q) H0) : E X H0 G e (Old H0 x) := h.weak fun _ v _ _ p => by
  have p : v = .ref q := p
  rw [p]; exact hq
end
end Lk

/-! LkW2 -/
set_option Elab.async false
set_option linter.all false
set_option maxRecDepth 100000
set_option maxHeartbeats 4000000
set_option autoImplicit false
/-! Solving.clear -/
namespace Lk
open PySem PySem.Spec PyProof.Rows L2
open Ty (r)
section
variable {K : PySem.W.Frag} {s : Sol K} {p dx L Dd : Addr} {ra : List RowA} {C : Hp}
theorem SolF.setL (h : SolF K s p dx L Dd ra C) {ra' : List RowA} (hr : ∀ x ∈ ra', x.at C) (hn : ra ≠ []) {ls : List (List Int)} (hl : ra'.map (·.l) = ls) : SolF K { s with lines := ls } p dx L Dd ra' (upd C L (.lst (ra'.map fun x => V.ref x.a))) := by
  refine ⟨?_, upd_same, fun x hx => ?_, hl, ?_⟩
  · rw [upd_ne (ne_of h.ins h.lst (fun z => nomatch z))]; exact h.ins
  · show upd C L _ x.a = _
    rw [upd_ne (rowNe hn h.lst (hr x hx))]
    exact hr x hx
  · obtain ⟨k, h1, h2⟩ := h.dic
    exact ⟨k, by rw [upd_ne (ne_of h1 h.lst (fun z => nomatch z))]; exact h1, h2.intsK⟩
theorem SolF.setI (h : SolF K s p dx L Dd ra C) {L' : Addr} {ra' : List RowA} (hr : ∀ x ∈ ra', x.at C) (hL : C L' = some (.lst (ra'.map fun x => V.ref x.a))) {ls : List (List Int)} (hl : ra'.map (·.l) = ls) : SolF K { s with lines := ls } p dx L' Dd ra' (upd C p (.ins (He.ga K "Solving") dx (solFs s.field s.width (.ref L') (.ref Dd)))) := by
  refine ⟨upd_same, ?_, fun x hx => ?_, hl, ?_⟩
  · rw [upd_ne (ne_of hL h.ins (fun z => nomatch z))]; exact hL
  · show upd C p _ x.a = _
    rw [upd_ne (ne_of (hr x hx) h.ins (fun z => nomatch z))]
    exact hr x hx
  · obtain ⟨k, h1, h2⟩ := h.dic
    exact ⟨k, by rw [upd_ne (ne_of h1 h.ins (fun z => nomatch z))]; exact h1, h2.intsK⟩
theorem SolF.setD (h : SolF K s p dx L Dd ra C) {kvs : List (Key × V)} (hk : C Dd = some (.dK kvs)) {ld : List (Int × Int)} (hl : KVs ld kvs C) : SolF K { s with lineOf := ld } p dx L Dd ra (upd C Dd (.dK kvs)) := by
  have e : upd C Dd (.dK kvs) = C := by
    funext b
    by_cases hb : b = Dd
    · subst hb; rw [upd_same, hk]
    · rw [upd_ne hb]
  rw [e]
  exact ⟨h.ins, h.lst, h.rows, h.eq, kvs, hk, hl⟩
theorem SolF.setD' (h : SolF K s p dx L Dd ra C) {kvs kvs' : List (Key × V)} (hk : C Dd = some (.dK kvs)) {ld : List (Int × Int)} (hl : KVs ld kvs' C) : SolF K { s with lineOf := ld } p dx L Dd ra (upd C Dd (.dK kvs')) := by
  refine ⟨?_, ?_, fun x hx => ?_, h.eq, kvs', upd_same, hl.intsK⟩
  · rw [upd_ne (ne_of h.ins hk (fun z => nomatch z))]; exact h.ins
  · rw [upd_ne (ne_of h.lst hk (fun z => nomatch z))]; exact h.lst
  · show upd C Dd _ x.a = _
    rw [upd_ne (ne_of (h.rows x hx) hk (fun z => nomatch z))]
    exact h.rows x hx
end
theorem dicR {α : Type} [Ty α] {l : List (Int × α)} {kvs : List (Key × V)} {q : Addr} {H : Hp} (h : H q = some (.dK kvs)) (k : KVs l kvs H) : r (Dic.mk l) (.ref q) H := ⟨q, kvs, rfl, h, k⟩
theorem Same.cutU {Hc H0 : Hp} {q : Addr} {o : HO} (h : Same Hc H0) (hq : Hc q = none) : Same Hc (upd H0 q o) := fun b u e => by
  rw [upd_ne (ne_of_none e hq)]
  exact h b u e
theorem atI_nat {α : Type} {l : List α} {j : Nat} (h : j < l.length) : atI l (j : Int) = l[j]? := by
  unfold atI ixN
  rw [if_pos (by omega), if_pos (by omega), Int.toNat_natCast]
  rfl
theorem atI_some {α : Type} {l : List α} {i : Int} (h0 : 0 ≤ i) (h : i < l.length) : (atI l i).isSome = true := by
  obtain ⟨j, rfl⟩ := Int.eq_ofNat_of_zero_le h0
  rw [atI_nat (by omega), List.getElem?_eq_getElem (by omega)]
  rfl
theorem atI_zero {α : Type} {u : α} {l : List α} : atI (u :: l) 0 = some u := by
  have h := atI_nat (l := u :: l) (j := 0) (by simp)
  simpa using h
theorem atI_mem {α : Type} {l : List α} {i : Int} {u : α} (h : atI l i = some u) : u ∈ l := by
  obtain ⟨j, _, h2⟩ := ixN_atI h
  exact List.mem_of_getElem? h2
section
variable {P : Program} {w : World} {K : PySem.W.Frag} {mg : Str → Option Value} {base : Heap}
def spClear (K : PySem.W.Frag) : Sp := fun vs H Q _ => ∃ (Hc : Hp) (s : Sol K) (column : Int) (p : Addr) (n : Nat), vs = [.ref p, .int column] ∧ Same Hc H ∧ SolAt K s p (cut Hc H) ∧ SolIn s n ∧ (0 ≤ column ∧ column < n) ∧ ∀ H', Same Hc H' → SolAt K (clearS s column) p (cut Hc H') → Q .non H'
def rowNo (ra : List RowA) (i : Int) : RowA := (atI ra i).getD ⟨0, []⟩
theorem rowNo_l {ra : List RowA} {ls : List (List Int)} (e : ra.map (·.l) = ls) {i : Int} (h : (atI ra i).isSome = true) : (rowNo ra i).l = lineNo ls i := by
  unfold rowNo lineNo
  rw [← e, atI_map]
  cases hq : atI ra i with
  | none => rw [hq] at h; cases h
  | some x => rfl
theorem ok_Solving_clear (T : Tx K mg) : CalM P w K mg base 2 (He.ga K "Solving") "clear" ["self", "column"] (spClear K) := by
  obtain ⟨fd, F⟩ := T.f_Solving_clear
  refine calM_of F T.e_Solving_clear T.c_Solving (F.ok sc_Solving_clear (fun vs H Q Ex ⟨_, _, _, _, _, e, _⟩ => by rw [e]; rfl) fun cdv A outer s H vs Q Ex hr ⟨Hc, sl, column, p, n, e, hs, hsol, hok, hcol, hq⟩ => ?_) (fun _ _ _ _ _ _ us hl => match us, hl with | [_, _], _ => rfl)
  subst e
  refine ⟨_, PSs.nox pss_in, ?_⟩
  suffices hB : B (cxOf CX0 P w K mg base N_Solving_clear "Solving.clear" (defScope s_Solving_clear) (He.fAd K ("Solving", some "clear")) cdv A outer s H Ex).nox H [.im (Adr.mk p), .im column, .no, .no, .no, .no, .no, .no, .no, .no] (defBody s_Solving_clear) { nx := fun _ H' => Q .non H', rt := Q } from
    hB _ H (ent_at (R := .cons (Adr.mk p) (.cons column .nil)) (gs := [.im (Adr.mk p), .im column]) (n := 8) (ent_im (ent_im ent_nil)) (by rfl) ⟨_, _, rfl, rfl, _, _, rfl, rfl, rfl⟩)
  obtain ⟨dx, L, Dd, ra, SF⟩ := hsol.f
  have SF0 := SF.mono (cut_some hs)
  obtain ⟨kvs, hD, hK⟩ := SF.dic
  have hD0 := cut_some hs _ _ hD
  have rl : ra.length = sl.lines.length := by rw [← SF.eq, List.length_map]
  have ll := hok.ll
  have dl := hok.dl
  have nl := hok.nl
  have p0 := hok.p0.1
  have p1 := hok.p0.2
  have rowsIn : ∀ x ∈ ra, x.l.length = n ∧ ∀ z ∈ x.l, (0 : Int) ≤ z ∧ z < sl.field := fun x hx => hok.rows x.l (by rw [← SF.eq]; exact List.mem_map_of_mem hx)
  refine b_set 2 (e_lenK (l := sl.lineOf) T.m_len (E.there (e_fldA SF0.ins T.c_Solving T.a_Solving_line_of sf_lineOf (e_var 0)) (dicR hD0 hK.intsK)).ofOld) ?_ sc_Solving_clear.nd
  -- spots
  refine b_lcI (pf := fun spot : Int => !decide (entry (lineNo sl.lines spot) column = 0)) (ff := fun spot : Int => spot) 3 [("spot", 4)] sc_Solving_clear.nd (ei_rng2 T.m_range (e_var 2) (e_lenL (l := ra) T.m_len (E.there (e_fldA SF0.ins T.c_Solving T.a_Solving_lines sf_lines (e_var 0)) (rowsL SF0.lst)).ofOld) (by omega)) (by rw [rng_len]; omega) (fun s H C cl fp => tgt_name 4 sc_Solving_clear.nd) (fun s H C cl fp H0' hs' x hx => ?_) (fun s H C cl fp H0' hs x hx ht => E.fresh (e_var 4)) ?_
  · have hx := rng_mem hx
    have hi : (atI ra x).isSome = true := atI_some (by omega) (by omega)
    have SF1 := SF0.mono hs'
    have hm : rowNo ra x ∈ ra := atI_mem (some_getD hi)
    have hl := rowNo_l SF.eq hi
    rw [← hl]
    refine et_ne (e_ixL (some_getD (d := 0) (atI_some hcol.1 (by rw [(rowsIn _ hm).1]; omega))) (E.row (x := rowNo ra x) (e_ixL (u := rowNo ra x) (some_getD hi) (E.there (e_fldA SF1.ins T.c_Solving T.a_Solving_lines sf_lines (e_var 0)) (rowsL SF1.lst)).ofOld (e_var 4)) (SF1.rows _ hm)).ofOld (e_var 1)) e_int
  -- none
  have espots : ((rng (sl.lineOf.length : Int) ((ra.length : Int) - (sl.lineOf.length : Int)).toNat).filter fun spot => !decide (entry (lineNo sl.lines spot) column = 0)).map (fun spot => spot) = spotsOf sl.lines sl.lineOf.length column := by
    unfold spotsOf
    rw [rl]
  rw [espots]
  refine b_ifR (et_eqL hr (e_own 3) (E.val e_lst0)) (fun h => ?_) fun h => ?_
  · have h : spotsOf sl.lines sl.lineOf.length column = [] := of_decide_eq_true h
    refine b_retNone' fun σ H' a => ?_
    refine hq H' (Same.trans hs a.same) ?_
    have ec : clearS sl column = sl := by unfold clearS; rw [h]
    rw [ec]
    exact hsol.mono (cut_mono a.same)
  have h : ¬ spotsOf sl.lines sl.lineOf.length column = [] := of_decide_eq_false h
  obtain ⟨j, sr, hj⟩ := List.exists_cons_of_ne_nil h
  have hjr : (sl.lineOf.length : Int) ≤ j ∧ j < sl.lines.length := by
    have : j ∈ spotsOf sl.lines sl.lineOf.length column := by rw [hj]; simp
    unfold spotsOf at this
    rw [List.map_id' , List.mem_filter] at this
    have := rng_mem this.1
    omega
  obtain ⟨jn, rfl⟩ := Int.eq_ofNat_of_zero_le (show 0 ≤ j by omega)
  rw [hj]
  have hne : ra ≠ [] := fun z => by rw [z] at rl; simp at rl; omega
  have ia : (atI ra (sl.lineOf.length : Int)).isSome = true := atI_some (by omega) (by omega)
  have ij : (atI ra (jn : Int)).isSome = true := atI_some (by omega) (by omega)
  have hc0 : Hc L = none := new_free SF.lst fun _ z => nomatch z
  -- the exchange
  refine b_item2 (u := rowNo ra jn) (w := rowNo ra sl.lineOf.length) (j := sl.lineOf.length) (k := jn) (e_ixL (some_getD (d := ⟨0, []⟩) ij) (E.there (e_fldA SF0.ins T.c_Solving T.a_Solving_lines sf_lines (e_var 0)) (rowsL SF0.lst)).ofOld (e_ixL (l := (jn : Int) :: sr) (u := (jn : Int)) atI_zero (e_own 3) e_int)) (e_ixL (some_getD (d := ⟨0, []⟩) ia) (E.there (e_fldA SF0.ins T.c_Solving T.a_Solving_lines sf_lines (e_var 0)) (rowsL SF0.lst)).ofOld (e_var 2)) SF0.lst (by rw [List.length_map]; omega) (by rw [List.length_map]; omega) (e_fldA SF0.ins T.c_Solving T.a_Solving_lines sf_lines (e_var 0)) (e_var 2) rfl (fun v v2 Hq sH rv rv2 => ?_)
  have rv : v = .ref (rowNo ra jn).a := rv
  have rv2 : v2 = .ref (rowNo ra sl.lineOf.length).a := rv2
  subst rv rv2
  have pL : p ≠ L := ne_of SF.ins SF.lst (fun z => nomatch z)
  have e1 : (ra.map fun x => V.ref x.a).set sl.lineOf.length (.ref (rowNo ra jn).a) = (ra.set sl.lineOf.length (rowNo ra jn)).map fun x => V.ref x.a := by rw [List.map_set]
  have e2 : ((ra.set sl.lineOf.length (rowNo ra jn)).map fun x => V.ref x.a).set jn (.ref (rowNo ra sl.lineOf.length).a) = ((ra.set sl.lineOf.length (rowNo ra jn)).set jn (rowNo ra sl.lineOf.length)).map fun x => V.ref x.a := by rw [List.map_set (l := ra.set sl.lineOf.length (rowNo ra jn))]
  refine ⟨[.im (Adr.mk p), .im column, .im (sl.lineOf.length : Int), .own ((jn : Int) :: sr), .no, .no, .no, .no, .no, .no], .im _ (.im _ (.im _ (.own _ (.drop _ (.drop _ (.drop _ (.drop _ (.drop _ (.drop _ .nil))))))))), e_fldA (dx := dx) (by rw [upd_ne pL]; exact SF0.ins) T.c_Solving T.a_Solving_lines sf_lines (e_var 0), e_ixL (l := (jn : Int) :: sr) (u := (jn : Int)) atI_zero (e_own 3) e_int, [.im (Adr.mk p), .im column, .im (sl.lineOf.length : Int), .own ((jn : Int) :: sr), .no, .no, .no, .no, .no, .no], .im _ (.im _ (.im _ (.own _ (.drop _ (.drop _ (.drop _ (.drop _ (.drop _ (.drop _ .nil))))))))), ?_⟩
  rw [upd_upd, e1, e2]
  obtain ⟨ra1, er1⟩ : ∃ ra1, (ra.set sl.lineOf.length (rowNo ra jn)).set jn (rowNo ra sl.lineOf.length) = ra1 := ⟨_, rfl⟩
  rw [er1]
  have mem1 : ∀ x ∈ ra1, x ∈ ra := fun x hx => by
    rw [← er1] at hx
    rcases List.mem_or_eq_of_mem_set hx with hx | rfl
    · rcases List.mem_or_eq_of_mem_set hx with hx | rfl
      · exact hx
      · exact atI_mem (some_getD ij)
    · exact atI_mem (some_getD ia)
  have len1 : ra1.length = ra.length := by rw [← er1, List.length_set, List.length_set]
  obtain ⟨L1, eL1⟩ : ∃ L1, ra1.map (·.l) = L1 := ⟨_, rfl⟩
  have eL1' : L1 = (sl.lines.set sl.lineOf.length (lineNo sl.lines jn)).set jn (lineNo sl.lines sl.lineOf.length) := by
    rw [← eL1, ← er1, List.map_set, List.map_set, SF.eq, rowNo_l SF.eq ij, rowNo_l SF.eq ia]
  have SF1' := SF.setL (ra' := ra1) (fun x hx => SF.rows x (mem1 x hx)) hne eL1
  rw [← cut_upd hc0] at SF1'
  have hs1 := Same.cutU (o := .lst (ra1.map fun x => V.ref x.a)) hs hc0
  obtain ⟨H1, eH1⟩ : ∃ H1, upd H L (.lst (ra1.map fun x => V.ref x.a)) = H1 := ⟨_, rfl⟩
  rw [eH1] at SF1' hs1 ⊢
  have SF1 := SF1'.mono (cut_some hs1)
  have ia1 : (atI ra1 (sl.lineOf.length : Int)).isSome = true := atI_some (by omega) (by omega)
  have rowsIn1 : ∀ x ∈ ra1, x.l.length = n ∧ ∀ z ∈ x.l, (0 : Int) ≤ z ∧ z < sl.field := fun x hx => rowsIn x (mem1 x hx)
  have hm1 : rowNo ra1 sl.lineOf.length ∈ ra1 := atI_mem (some_getD ia1)
  have hl1 := rowNo_l eL1 ia1
  have ne1 : ra1 ≠ [] := fun z => by rw [z] at len1; simp at len1; exact hne (List.eq_nil_of_length_eq_zero len1.symm)
  -- by
  refine b_set 5 (e_call (ok_inverse T) hr (sl.field, entry (rowNo ra1 sl.lineOf.length).l column) hok.p0 (ea_cons (e_fldB SF1.ins T.c_Solving T.a_Solving_field sf_field (u := sl.field) rfl (e_var 0)).ofOld (ea_cons (e_ixL (some_getD (d := 0) (atI_some hcol.1 (by rw [(rowsIn1 _ hm1).1]; omega))) (E.row (x := rowNo ra1 sl.lineOf.length) (e_ixL (u := rowNo ra1 sl.lineOf.length) (some_getD ia1) (E.there (e_fldA SF1.ins T.c_Solving T.a_Solving_lines sf_lines (e_var 0)) (rowsL SF1.lst)).ofOld (e_var 2)) (SF1.rows _ hm1)).ofOld (e_var 1)) ea_nil))) ?_ sc_Solving_clear.nd
  -- own
  refine b_setRow 6 (e_lc (ff := fun m : Int => m * inverseI sl.field (entry (rowNo ra1 sl.lineOf.length).l column) % sl.field) [("number", 7)] sc_Solving_clear.nd (ei_old (E.row (x := rowNo ra1 sl.lineOf.length) (e_ixL (u := rowNo ra1 sl.lineOf.length) (some_getD ia1) (E.there (e_fldA SF1.ins T.c_Solving T.a_Solving_lines sf_lines (e_var 0)) (rowsL SF1.lst)).ofOld (e_var 2)) (SF1.rows _ hm1))) (by rw [(rowsIn1 _ hm1).1]; omega) (fun s H C cl fp => tgt_name 7 sc_Solving_clear.nd) (fun s H C cl fp H0' hs' x hx => E.fresh (e_mod p0 (e_mul ?_ (e_var 7) (e_var 5)) (e_fldB (SF1.mono hs').ins T.c_Solving T.a_Solving_field sf_field (u := sl.field) rfl (e_var 0)).ofOld))) (fun H2 qo s12 q1 q2 => ?_) sc_Solving_clear.nd
  · have := (rowsIn1 _ hm1).2 x hx
    unfold CMul
    exact .inl (by omega)
  obtain ⟨own, eown⟩ : ∃ own, (rowNo ra1 sl.lineOf.length).l.map (fun m : Int => m * inverseI sl.field (entry (rowNo ra1 sl.lineOf.length).l column) % sl.field) = own := ⟨_, rfl⟩
  rw [eown] at q2 ⊢
  have hs2 := Same.trans hs1 s12
  have SF2' := SF1'.mono (cut_mono s12)
  have SF2 := SF2'.mono (cut_some hs2)
  have hqo : Hc qo = none := Same.free hs1 q1
  have ho2 : (RowA.mk qo own).at (cut Hc H2) := cut_new hqo q2
  -- lines
  refine b_setOld 8 (E.there (e_fldA SF2.ins T.c_Solving T.a_Solving_lines sf_lines (e_var 0)) (rowsL SF2.lst)) ?_ sc_Solving_clear.nd
  -- self.lines
  refine b_fld (e_lcM (B0 := cut Hc H2) (cut_some hs2) (ff := fun x : RowA => Lst.mk (if decide (entry x.l column = 0) = true then x.l else lessI sl.field x.l own (entry x.l column))) [("line", 9)] sc_Solving_clear.nd (ei_old (e_old 8)) (by omega) (fun s H C cl fp => tgt_name 9 sc_Solving_clear.nd) (fun s H C cl fp H0' hs' x hx => ?_)) SF2.ins T.c_Solving T.a_Solving_lines (by show 4 < 1000; decide) (fun H0' hs => e_var 0) (fun H3 H4 v s23 s34 rv => ?_)
  · have SF3 := SF2.mono hs'
    have hi : (atI x.l column).isSome = true := atI_some hcol.1 (by rw [(rowsIn1 _ hx).1]; omega)
    have ez : ∃ z, atI x.l column = some z ∧ z ∈ x.l := ⟨_, some_getD (d := 0) hi, atI_mem (some_getD (d := 0) hi)⟩
    have een : entry x.l column ∈ x.l := by obtain ⟨z, h1, h2⟩ := ez; unfold entry; rw [h1]; exact h2
    have hen := (rowsIn1 _ hx).2 _ een
    have cond : ∀ {G : List Slot} {k : Bool}, True := fun {G k} => trivial
    refine e_if (k := decide (entry x.l column = 0)) (et_eq (e_ixL (some_getD (d := 0) hi) (E.row (x := x) (e_var 9) (SF3.rows x hx)).ofOld (e_var 1)) e_int) (fun h => ?_) fun h => ?_
    · have ef : (if decide (entry x.l column = 0) = true then x.l else lessI sl.field x.l own (entry x.l column)) = x.l := if_pos h
      rw [ef]
      exact E.rowM (x := x) (e_var 9) (SF2'.rows x hx)
    · have ef : (if decide (entry x.l column = 0) = true then x.l else lessI sl.field x.l own (entry x.l column)) = lessI sl.field x.l own (entry x.l column) := if_neg (by rw [h]; decide)
      rw [ef]
      exact E.mixN (Same.trans (cut_some hs2) hs') (e_call (ok_lessened T) hr (sl.field, ⟨x.l⟩, ⟨own⟩, entry x.l column) ⟨p0, by show x.l.length < 1000; rw [(rowsIn1 _ hx).1]; exact nl, by show -(2 ^ 64) < entry x.l column; omega, by show entry x.l column < 2 ^ 64; omega⟩ (ea_cons (e_fldB SF3.ins T.c_Solving T.a_Solving_field sf_field (u := sl.field) rfl (e_var 0)).ofOld (ea_cons (E.row (x := x) (e_var 9) (SF3.rows x hx)).ofOld (ea_cons (E.row (x := RowA.mk qo own) (e_var 6) (hs' _ _ q2)).ofOld (ea_cons (e_ixL (some_getD (d := 0) hi) (E.row (x := x) (e_var 9) (SF3.rows x hx)).ofOld (e_var 1)) ea_nil)))))
  -- the state behind it
  have hs3 : Same Hc (reb H2 H3 H4) := Same.trans hs2 reb_old
  have rv3 := Ty.mono (reb_sub hs2 s23) rv
  obtain ⟨L2, xs2, ev2, hL2, hA2⟩ := rv3
  subst ev2
  obtain ⟨Lm, eLm⟩ : ∃ Lm, L1.map (fun l => if decide (entry l column = 0) = true then l else lessI sl.field l own (entry l column)) = Lm := ⟨_, rfl⟩
  have em : (ra1.map fun x : RowA => Lst.mk (if decide (entry x.l column = 0) = true then x.l else lessI sl.field x.l own (entry x.l column))) = Lm.map Lst.mk := by
    rw [← eLm, ← eL1, List.map_map, List.map_map]
    rfl
  have hA2 : A2 (Lm.map Lst.mk) xs2 (cut Hc (reb H2 H3 H4)) := by rw [← em]; exact hA2
  obtain ⟨ra2, g1, g2, g3⟩ := rowsA hA2
  rw [g2] at hL2
  obtain ⟨Hb, eHb⟩ : ∃ Hb, reb H2 H3 H4 = Hb := ⟨_, rfl⟩
  have s2b : Same H2 Hb := by rw [← eHb]; exact reb_old
  rw [eHb] at hs3 hL2 g3 ⊢
  have SF3' := SF2'.mono (cut_mono s2b)
  have hcp : Hc p = none := new_free SF.ins fun _ z => nomatch z
  have SF4' := SF3'.setI g3 hL2 g1
  rw [← cut_upd hcp] at SF4'
  have ep : putF ("lines" : Str) (V.ref L2) (solFs sl.field sl.width (V.ref L) (V.ref Dd)) = solFs sl.field sl.width (V.ref L2) (V.ref Dd) := solFs_put
  have ep' : putF ("lines" : Str) (V.ref L2) (solFs ({ sl with lines := L1 } : Sol K).field ({ sl with lines := L1 } : Sol K).width (V.ref L) (V.ref Dd)) = solFs sl.field sl.width (V.ref L2) (V.ref Dd) := solFs_put
  rw [ep']
  have hs4 := Same.cutU (o := .ins (He.ga K "Solving") dx (solFs sl.field sl.width (.ref L2) (.ref Dd))) hs3 hcp
  have ho4 : (RowA.mk qo own).at (cut Hc (upd Hb p (.ins (He.ga K "Solving") dx (solFs sl.field sl.width (.ref L2) (.ref Dd))))) := by
    show cut Hc _ qo = _
    rw [cut_upd hcp]
    have h1 : cut Hc Hb qo = some (.lst (own.map V.int)) := cut_mono s2b _ _ ho2
    rw [upd_ne (ne_of h1 SF3'.ins (fun z => nomatch z))]
    exact h1
  obtain ⟨H5, eH5⟩ : ∃ H5, upd Hb p (.ins (He.ga K "Solving") dx (solFs sl.field sl.width (.ref L2) (.ref Dd))) = H5 := ⟨_, rfl⟩
  have SF4' : SolF K { sl with lines := Lm } p dx L2 Dd ra2 (cut Hc H5) := by rw [← eH5]; exact SF4'
  rw [eH5] at hs4 ho4 ⊢
  have SF4 := SF4'.mono (cut_some hs4)
  have len2 : ra2.length = ra1.length := by
    have h1 : (ra2.map (·.l)).length = Lm.length := by rw [g1]
    rw [List.length_map, ← eLm, List.length_map, ← eL1, List.length_map] at h1
    exact h1
  have ne2 : ra2 ≠ [] := fun z => by rw [z] at len2; simp at len2; exact ne1 (List.eq_nil_of_length_eq_zero len2.symm)
  refine ⟨[.im (Adr.mk p), .im column, .im (sl.lineOf.length : Int), .no, .no, .no, .im (RowA.mk qo own), .no, .no, .no], .im _ (.im _ (.im _ (.drop _ (.drop _ (.drop _ (.im _ (.drop _ (.drop _ (.drop _ .nil))))))))), ?_⟩
  -- self.lines[at] = own
  have hcL2 : Hc L2 = none := new_free SF4'.lst fun _ z => nomatch z
  refine b_item (u := RowA.mk qo own) (j := sl.lineOf.length) (e_var 6) SF4.lst (by rw [List.length_map]; omega) (e_fldA SF4.ins T.c_Solving T.a_Solving_lines sf_lines (e_var 0)) (e_var 2) (fun v H6 s6 rv => ?_)
  have rv : v = .ref qo := rv
  subst rv
  have e5 : (ra2.map fun x => V.ref x.a).set sl.lineOf.length (.ref qo) = (ra2.set sl.lineOf.length (RowA.mk qo own)).map fun x => V.ref x.a := by rw [List.map_set]
  rw [e5]
  have SF5' := SF4'.setL (ra' := ra2.set sl.lineOf.length (RowA.mk qo own)) (fun x hx => by
    rcases List.mem_or_eq_of_mem_set hx with hx | rfl
    · exact SF4'.rows x hx
    · exact ho4) ne2 (ls := Lm.set sl.lineOf.length own) (by rw [List.map_set, g1])
  rw [← cut_upd hcL2] at SF5'
  have hs5 := Same.cutU (o := .lst ((ra2.set sl.lineOf.length (RowA.mk qo own)).map fun x => V.ref x.a)) hs4 hcL2
  obtain ⟨H7, eH7⟩ : ∃ H7, upd H5 L2 (.lst ((ra2.set sl.lineOf.length (RowA.mk qo own)).map fun x => V.ref x.a)) = H7 := ⟨_, rfl⟩
  have SF5' : SolF K { sl with lines := Lm.set sl.lineOf.length own } p dx L2 Dd (ra2.set sl.lineOf.length (RowA.mk qo own)) (cut Hc H7) := by rw [← eH7]; exact SF5'
  rw [eH7] at hs5 ⊢
  have SF5 := SF5'.mono (cut_some hs5)
  obtain ⟨kvs5, hk5, hl5⟩ := SF5'.dic
  have hcD : Hc Dd = none := new_free hk5 fun _ z => nomatch z
  refine ⟨[.im (Adr.mk p), .im column, .im (sl.lineOf.length : Int), .no, .no, .no, .no, .no, .no, .no], .im _ (.im _ (.im _ (.drop _ (.drop _ (.drop _ (.drop _ (.drop _ (.drop _ (.drop _ .nil))))))))), ?_⟩
  -- self.line_of[column] = at
  refine b_dput hr (u := (sl.lineOf.length : Int)) (x := column) (e_var 2) (cut_some hs5 _ _ hk5) (by rw [← Paired.length hl5]; show sl.lineOf.length < _; omega) (e_fldA SF5.ins T.c_Solving T.a_Solving_line_of sf_lineOf (e_var 0)) (e_var 1) (fun v H8 s8 rv => ?_)
  have rv : v = .int (sl.lineOf.length : Int) := rv
  subst rv
  have SF6' := SF5'.setD' hk5 (ld := dput sl.lineOf column sl.lineOf.length) (KVs.put hl5 rfl)
  rw [← cut_upd hcD] at SF6'
  have hs6 := Same.cutU (o := .dK (putK kvs5 (.inl column) (.int (sl.lineOf.length : Int)))) hs5 hcD
  refine ⟨[.im (Adr.mk p), .im column, .im (sl.lineOf.length : Int), .no, .no, .no, .no, .no, .no, .no], .im _ (.im _ (.im _ (.drop _ (.drop _ (.drop _ (.drop _ (.drop _ (.drop _ (.drop _ .nil))))))))), b_nil fun σ H' a => hq H' (Same.trans hs6 a.same) ?_⟩
  have ec : clearS sl column = { sl with lines := Lm.set sl.lineOf.length own, lineOf := dput sl.lineOf column sl.lineOf.length } := by
    unfold clearS
    rw [hj]
    show ({ sl with lines := clrLines sl.field sl.lines sl.lineOf.length ((jn : Int)).toNat column, lineOf := _ } : Sol K) = _
    rw [Int.toNat_natCast]
    have : clrLines sl.field sl.lines sl.lineOf.length jn column = Lm.set sl.lineOf.length own := by
      unfold clrLines
      dsimp only
      rw [← eL1', ← hl1, eown, eLm]
    rw [this]
  rw [ec]
  exact SF6'.at.mono (cut_mono a.same)
end
end Lk

/-! LkY -/
set_option Elab.async false
set_option linter.all false
set_option maxRecDepth 100000
set_option maxHeartbeats 4000000
set_option autoImplicit false
/-! Solving made; known_by. -/
namespace Lk
open PySem PySem.Spec PyProof.Rows L2
open Ty (r)
/-! ### what stays true of a solving -/
structure SolOk {K : PySem.W.Frag} (s : Sol K) (n : Nat) : Prop extends SolIn s n where
  ix : ∀ e ∈ s.lineOf, 0 ≤ e.2 ∧ e.2 < s.lines.length
theorem lessI_len {p : Int} {row other : List Int} {often : Int} : (lessI p row other often).length = min row.length other.length := by
  unfold lessI
  rw [List.length_map, List.length_zip]
theorem dput_mem {α : Type} {l : List (Int × α)} {i : Int} {u : α} {e : Int × α} (h : e ∈ dput l i u) : e ∈ l ∨ e.2 = u := by
  unfold dput at h
  split at h
  · obtain ⟨z, h1, h2⟩ := List.mem_map.mp h
    split at h2
    · rw [← h2]; exact .inr rfl
    · rw [← h2]; exact .inl h1
  · rcases List.mem_append.mp h with h | h
    · exact .inl h
    · rw [List.mem_singleton.mp h]; exact .inr rfl
theorem dget_mem {α : Type} {l : List (Int × α)} {i : Int} {u : α} (h : dget l i = some u) : (i, u) ∈ l := by
  unfold dget at h
  cases hf : l.find? fun e => decide (e.1 = i) with
  | none => rw [hf] at h; cases h
  | some e =>
    rw [hf] at h
    have h : some e.2 = some u := h
    have h1 := List.find?_some hf
    have h2 := List.mem_of_find?_eq_some hf
    have h1 : e.1 = i := of_decide_eq_true h1
    cases h
    rw [← h1]
    exact h2
theorem clr_len {p : Int} {lines : List (List Int)} {at' j : Nat} {column : Int} : (clrLines p lines at' j column).length = lines.length := by
  unfold clrLines
  dsimp only
  rw [List.length_set, List.length_map, List.length_set, List.length_set]
theorem spots_mem {lines : List (List Int)} {at' column j : Int} (h : j ∈ spotsOf lines at' column) : at' ≤ j ∧ j < lines.length := by
  unfold spotsOf at h
  rw [List.map_id', List.mem_filter] at h
  have := rng_mem h.1
  omega
theorem clear_ok {K : PySem.W.Frag} {s : Sol K} {n : Nat} {column : Int} (h : SolOk s n) (hd : s.lineOf.length + 1 < 1000) : SolOk (clearS s column) n ∧ (clearS s column).width = s.width ∧ (clearS s column).field = s.field ∧ (clearS s column).lineOf.length ≤ s.lineOf.length + 1 := by
  unfold clearS
  cases hj : spotsOf s.lines s.lineOf.length column with
  | nil => exact ⟨h, rfl, rfl, by show s.lineOf.length ≤ _; omega⟩
  | cons j sr =>
    have hjr := spots_mem (j := j) (by rw [hj]; simp)
    have p0 := h.p0.1
    have dl := dput_len (l := s.lineOf) (i := column) (u := (s.lineOf.length : Int))
    refine ⟨⟨⟨h.p0, fun l hl => ?_, by show (clrLines _ _ _ _ _).length < 1000; rw [clr_len]; exact h.ll, by show (dput _ _ _).length < 1000; omega, h.nl⟩, fun e he => ?_⟩, rfl, rfl, dl⟩
    · have hl : l ∈ clrLines s.field s.lines s.lineOf.length j.toNat column := hl
      unfold clrLines at hl
      dsimp only at hl
      obtain ⟨L1, eL1⟩ : ∃ L1, (s.lines.set s.lineOf.length (lineNo s.lines j.toNat)).set j.toNat (lineNo s.lines s.lineOf.length) = L1 := ⟨_, rfl⟩
      rw [eL1] at hl
      have in0 : ∀ i : Int, 0 ≤ i → i < s.lines.length → lineNo s.lines i ∈ s.lines := fun i h0 h1 => by
        unfold lineNo
        exact atI_mem (some_getD (d := []) (atI_some h0 h1))
      have in1 : ∀ l ∈ L1, l.length = n ∧ ∀ x ∈ l, (0 : Int) ≤ x ∧ x < s.field := fun l hl => by
        refine h.rows l ?_
        rw [← eL1] at hl
        rcases List.mem_or_eq_of_mem_set hl with hl | rfl
        · rcases List.mem_or_eq_of_mem_set hl with hl | rfl
          · exact hl
          · exact in0 _ (by omega) (by omega)
        · exact in0 _ (by omega) (by omega)
      have len1 : L1.length = s.lines.length := by rw [← eL1, List.length_set, List.length_set]
      have own1 : lineNo L1 s.lineOf.length ∈ L1 := by
        unfold lineNo
        exact atI_mem (some_getD (d := []) (atI_some (by omega) (by omega)))
      obtain ⟨own, eo⟩ : ∃ own, (lineNo L1 s.lineOf.length).map (fun m => m * inverseI s.field (entry (lineNo L1 s.lineOf.length) column) % s.field) = own := ⟨_, rfl⟩
      rw [eo] at hl
      have ho : own.length = n ∧ ∀ x ∈ own, (0 : Int) ≤ x ∧ x < s.field := by
        rw [← eo]
        refine ⟨by rw [List.length_map]; exact (in1 _ own1).1, fun x hx => ?_⟩
        obtain ⟨y, _, rfl⟩ := List.mem_map.mp hx
        exact ⟨Int.emod_nonneg _ (Int.ne_of_gt p0), Int.emod_lt_of_pos _ p0⟩
      rcases List.mem_or_eq_of_mem_set hl with hl | rfl
      · obtain ⟨l0, h1, rfl⟩ := List.mem_map.mp hl
        split
        · exact in1 l0 h1
        · refine ⟨by rw [lessI_len, (in1 l0 h1).1, ho.1, Nat.min_self], fun x hx => ?_⟩
          unfold lessI at hx
          obtain ⟨y, _, rfl⟩ := List.mem_map.mp hx
          exact ⟨Int.emod_nonneg _ (Int.ne_of_gt p0), Int.emod_lt_of_pos _ p0⟩
      · exact ho
    · show 0 ≤ e.2 ∧ e.2 < ((clrLines _ _ _ _ _).length : Int)
      rw [clr_len]
      rcases dput_mem he with he | he
      · exact h.ix e he
      · rw [he]; omega
/-! ### loops that change the base -/
def AtS (S : Hp → Prop) (G : List Slot) (σ : L2.St) (H : Hp) : Prop := ∃ Hb, S Hb ∧ At Hb G σ H
class Flat (α : Type) [Im α] : Prop where
  fl : ∀ (a : α) (v : V) (H H' : Hp), r a v H → r a v H'
instance : Flat Int := ⟨fun _ _ _ _ h => h⟩
instance : Flat Bool := ⟨fun _ _ _ _ h => h⟩
instance : Flat Adr := ⟨fun _ _ _ _ h => h⟩
instance : Flat RowA := ⟨fun _ _ _ _ h => h⟩
inductive FlatG : List Slot → Prop
  | nil : FlatG []
  | im {α : Type} [Im α] [Flat α] (a : α) {G : List Slot} : FlatG G → FlatG (.im a :: G)
  | no {G : List Slot} : FlatG G → FlatG (.no :: G)
theorem FlatG.get {G : List Slot} (h : FlatG G) : ∀ {i : Nat} {s : Slot}, G[i]? = some s → (¬ s.isOwn) ∧ ∀ H0 H0' v H H', s.ok H0 v H → s.ok H0' v H' := by
  induction h with
  | nil => intro i s e; simp at e
  | im a _ ih =>
    intro i s e
    cases i with
    | zero => cases e; exact ⟨fun z => z, fun _ _ v H H' q => Flat.fl a v H H' q⟩
    | succ i => exact ih (by simpa using e)
  | no _ ih =>
    intro i s e
    cases i with
    | zero => cases e; exact ⟨fun z => z, fun _ _ v H H' q => trivial⟩
    | succ i => exact ih (by simpa using e)
theorem At.flat {H0 H H' H0' : Hp} {G : List Slot} {σ : L2.St} (h : At H0 G σ H) (f : FlatG G) (s : Same H0' H') : At H0' G σ H' := by
  refine ⟨h.len, fun i t e => ?_, fun i j t u v e1 e2 o1 o2 _ _ => absurd o1 (f.get e1).1, s⟩
  obtain ⟨o, e1, e2⟩ := h.at_ i t e
  refine ⟨o, e1, ?_⟩
  by_cases hn : t = .no
  · subst hn; trivial
  · obtain ⟨v, ev, q⟩ := Slot.at_get e2 hn
    rw [ev]
    exact Slot.at_some ((f.get e).2 _ _ v _ _ q)
section
variable {X : Cx} {H0 He Hc : Hp} {G G' : List Slot} {e a b c o tg i : Expr} {es : List Expr} {pos p p1 p2 apos : Pos} {D : Ends} {st : Stmt} {rest body els : List Stmt}
theorem b_forRM {x : Int} {js : List Nat} {up : Int → List Slot → List Slot} (S : Nat → Hp → Prop) (Gs : Nat → List Slot) (hm : X.mg "range" = none) (ha : E X H0 G a (Val x)) (hx : -(2 ^ 62) ≤ x ∧ x < 2 ^ 62) (ht : Tgt X tg js up) (h0 : ∀ Hb, Same H0 Hb → S 0 Hb) (hsub : Sub G (Gs 0))
    (hs : ∀ Hb i, i < x.toNat → S i Hb → B X Hb (up ((i : Nat) : Int) (Gs i)) body { D with nx := AtS (S (i + 1)) (Gs (i + 1)), ct := AtS (S (i + 1)) (Gs (i + 1)), bk := fun σ H => tB X rest D σ H })
    (hd : ∀ Hb, S x.toNat Hb → B X Hb (Gs x.toNat) rest D) (hp : PassesOwn (model X.prog X.w) X.A X.env X.xe) (hc : X.calm = true := by rfl) (hg : Gl X "range" := by rfl) (hst : starEach [a] X.env = [(false, eval a X.env)] := by rfl) (hf : ∀ y, foldedSetIterable (.Call (.Name "range" p) [a] [] p1) X.env y = pure y := by intro _; rfl) :
    B X H0 G (.For tg (.Call (.Name "range" p) [a] [] p1) body [] pos :: rest) D := B.seq fun σ H a0 => ps_out (ps_for hp hc (pi_range1 hg hm (pa_cons pe_in pa_nil hst) hst) pg_in pss_in hf) (ha σ H _ a0 fun v H1 s1 p1 => by
  have p1 : v = .int x := p1
  subst p1
  refine ⟨x, rfl, hx.1, hx.2, ?_⟩
  refine for_it (walk_range (lo := 0) (n := x.toNat)) (fun i σ' H' => AtS (S i) (Gs i) σ' H') ⟨H0, h0 _ (Same.refl _), (a0.ext s1).sub hsub⟩ (fun i σ' H' _ _ => trivial) (fun i v σ' H' H2 hil ⟨Hb, sb, q⟩ y => ?_) fun σ' H' ⟨Hb, sb, q⟩ => hd Hb sb σ' H' q
  obtain ⟨y1, y2⟩ := y
  subst y1
  refine ht ((i : Nat) : Int) v σ' _ _ H2 _ (by rw [y2]; show V.int (0 + (i : Int)) = V.int (i : Int); rw [Int.zero_add]) q fun σ2 q2 _ => ?_
  exact hs Hb i hil sb σ2 H2 q2)
/-- o.m(e): a call that changes things, its value dropped -/
theorem b_callM {k m : Nat} {C : Addr} {nm : Str} {ps : List Str} {sp : Sp} {pa dx : Addr} {fs : List (Str × V)} {R : Ars} {pl : Sem Bool} (F : CalM X.prog X.w X.K X.mg X.base k C nm ps sp) (hr : Room m X.A) (ho : E X H0 G o (Val (Adr.mk pa))) (hx : H0 pa = some (.ins C dx fs)) (hl : fs.lookup nm = none) (ha : EA X H0 G (e :: es) R)
    (hsp : ∀ σ H vs, At H0 G σ H → R.p vs H → sp (.ref pa :: vs) H (fun _ H' => tB X rest D σ H') E0) (hk : k ≤ m := by decide)
    (hst : starEach (e :: es) X.env = (false, eval e X.env) :: starEach es X.env := by rfl) (hpl : (backTo p (starEach es X.env)).any (·.1) = false := by rfl)
    (ht : eval (.Call (.Attribute o nm apos) (e :: es) [] p) X.env = (do
      let ov ← eval o X.env
      standAt apos.atName
      let (f, first) ← holding [ov] (getMethod ov nm pl)
      callWith p f first (backTo p (starEach (e :: es) X.env)) (backToKw p (keywordEach [] X.env))) := by rfl)
    (hsw : swapsWith (.Call (.Attribute o nm apos) (e :: es) [] p) none pos.line X.env = pure false := by rfl) : B X H0 G (.Expr (.Call (.Attribute o nm apos) (e :: es) [] p) pos :: rest) D := B.seq fun σ H h0 => by
  obtain ⟨f, fd, F1, F2, F3, F4⟩ := F.ex
  refine ps_out (ps_expr (pe_meth pe_in F3 F2 F1 (hr.mono hk) F4 .nil pass0 pa_in hst hpl ht) hsw) (ho σ H _ h0 fun v H1 s1 p1 => ?_)
  have p1 : v = .ref pa := p1
  subst p1
  refine ⟨pa, dx, fs, rfl, s1 _ _ (h0.same _ _ hx), hl, ha σ H1 _ (h0.ext s1) fun vs H2 s2 p2 => ?_⟩
  show sp (.ref pa :: (vs ++ [])) H2 _ E0
  rw [List.append_nil]
  exact hsp σ H2 vs ((h0.ext s1).ext s2) p2
end
section
variable {P : Program} {w : World} {K : PySem.W.Frag} {mg : Str → Option Value} {base : Heap}
def sol0 (K : PySem.W.Frag) (p : Int) (rows : List (List Int)) (width : Int) : Sol K := ⟨p, width, rows.map fun row => row.map fun m => m % p, []⟩
def mkSol (K : PySem.W.Frag) (p : Int) (rows : List (List Int)) (width : Int) : Sol K := (rng 0 width.toNat).foldl clearS (sol0 K p rows width)
structure MkOk (p : Int) (rows : List (List Int)) (width : Int) : Prop where
  p0 : smallP p
  w0 : 0 ≤ width ∧ width < 900
  rl : rows.length < 1000
  rs : ∀ l ∈ rows, l.length = width.toNat + 1
theorem sol0_ok {p : Int} {rows : List (List Int)} {width : Int} (h : MkOk p rows width) : SolOk (sol0 K p rows width) (width.toNat + 1) := by
  have w0 := h.w0
  have p0 := h.p0.1
  refine ⟨⟨h.p0, fun l hl => ?_, by show (rows.map _).length < 1000; rw [List.length_map]; exact h.rl, by show (0 : Nat) < 1000; decide, by omega⟩, fun e he => by cases he⟩
  obtain ⟨l0, h1, rfl⟩ := List.mem_map.mp hl
  refine ⟨by rw [List.length_map]; exact h.rs l0 h1, fun x hx => ?_⟩
  obtain ⟨y, _, rfl⟩ := List.mem_map.mp hx
  exact ⟨Int.emod_nonneg _ (Int.ne_of_gt p0), Int.emod_lt_of_pos _ p0⟩
theorem rng_take {n i : Nat} (h : i ≤ n) : (rng 0 n).take i = rng 0 i := by
  unfold rng
  rw [← List.map_take, List.take_range, Nat.min_eq_left h]
theorem rng_succ {i : Nat} : rng 0 (i + 1) = rng 0 i ++ [(i : Int)] := by
  unfold rng
  rw [List.range_succ, List.map_append]
  show _ ++ [(0 : Int) + i] = _
  rw [Int.zero_add]
theorem solI_ok {p : Int} {rows : List (List Int)} {width : Int} (h : MkOk p rows width) : ∀ i : Nat, i ≤ width.toNat → SolOk ((rng 0 i).foldl clearS (sol0 K p rows width)) (width.toNat + 1) ∧ ((rng 0 i).foldl clearS (sol0 K p rows width)).width = width ∧ ((rng 0 i).foldl clearS (sol0 K p rows width)).field = p ∧ ((rng 0 i).foldl clearS (sol0 K p rows width)).lineOf.length ≤ i
  | 0, _ => ⟨sol0_ok h, rfl, rfl, Nat.le_refl _⟩
  | i + 1, hi => by
    have w0 := h.w0
    obtain ⟨h1, h2, h3, h4⟩ := solI_ok h i (by omega)
    obtain ⟨g1, g2, g3, g4⟩ := clear_ok (column := (i : Int)) h1 (by omega)
    rw [rng_succ, List.foldl_append]
    exact ⟨g1, g2.trans h2, g3.trans h3, by show (clearS _ _).lineOf.length ≤ _; omega⟩
def spSolInit (K : PySem.W.Frag) : Sp := fun vs H Q _ => ∃ (Hc : Hp) (x dx : Addr) (p : Int) (rows : List (List Int)) (vr : V) (width : Int), vs = [.ref x, .int p, vr, .int width] ∧ Same Hc H ∧ H x = some (.ins (He.ga K "Solving") dx []) ∧ Hc x = none ∧ r (Lst.mk (rows.map Lst.mk)) vr Hc ∧ MkOk p rows width ∧ ∀ H', Same Hc H' → SolAt K (mkSol K p rows width) x (cut Hc H') → Q .non H'
theorem ok_Solving_init (T : Tx K mg) : ∃ fd, FnOk P w K mg base CX0 3 (He.ma K (He.ga K "Solving") "__init__") fd ["self", "p", "rows", "width"] (spSolInit K) ∧ Binds K fd ["self", "p", "rows", "width"] [] := by
  obtain ⟨fd, F⟩ := T.f_Solving_init
  refine ⟨fd, F.ok sc_Solving_init (fun vs H Q Ex ⟨_, _, _, _, _, _, _, e, _⟩ => by rw [e]; rfl) fun cdv A outer s H vs Q Ex hr ⟨Hc, x, dx, p, rows, vr, width, e, hs, hx, hcx, hrw, hok, hq⟩ => ?_, F.bindsN (fun _ _ _ _ _ _ us hl => match us, hl with | [_, _, _, _], _ => rfl)⟩
  subst e
  refine ⟨_, PSs.nox pss_in, ?_⟩
  obtain ⟨q, xs, rfl, hq1, hq2⟩ := hrw
  obtain ⟨rr, r1, r2, r3⟩ := rowsA hq2
  rw [r2] at hq1
  suffices hB : B (cxOf CX0 P w K mg base N_Solving_init "Solving.__init__" (defScope s_Solving_init) (He.fAd K ("Solving", some "__init__")) cdv A outer s H Ex).nox H [.im (Adr.mk x), .im p, .im (Adr.mk q), .im width, .no, .no, .no] (defBody s_Solving_init) { nx := fun _ H' => Q .non H', rt := Q } from
    hB _ H (ent_at (R := .cons (Adr.mk x) (.cons p (.cons (Adr.mk q) (.cons width .nil)))) (gs := [.im (Adr.mk x), .im p, .im (Adr.mk q), .im width]) (n := 3) (ent_im (ent_im (ent_im (ent_im ent_nil)))) (by rfl) ⟨_, _, rfl, rfl, _, _, rfl, rfl, _, _, rfl, rfl, _, _, rfl, rfl, rfl⟩)
  have w0 := hok.w0
  have p0 := hok.p0.1
  have chg : ∀ {A B : Hp}, Chg A B [.im (Adr.mk x), .im p, .im (Adr.mk q), .im width, .no, .no, .no] [.im (Adr.mk x), .im p, .im (Adr.mk q), .im width, .no, .no, .no] := .im _ (.im _ (.im _ (.im _ (.drop _ (.drop _ (.drop _ .nil))))))
  refine b_fld (e_var 1) hx T.c_Solving T.a_Solving_field (by show 0 < 1000; decide) (fun H0' hs => e_var 0) (fun M1 M2 v sA sA2 rv => ⟨_, chg, ?_⟩)
  have rv : v = .int p := rv
  subst rv
  have step : ∀ {A0 Am An : Hp} {fs : List (Str × V)}, Same Hc A0 → Same Hc (upd (reb A0 Am An) x (.ins (He.ga K "Solving") dx fs)) := fun h => Same.cutU (Same.trans h reb_old) hcx
  obtain ⟨B1, eB1⟩ : ∃ B1, upd (reb H M1 M2) x (.ins (He.ga K "Solving") dx (putF "field" (.int p) [])) = B1 := ⟨_, rfl⟩
  have hs1 : Same Hc B1 := by rw [← eB1]; exact step hs
  have hx1 : B1 x = some (.ins (He.ga K "Solving") dx [("field", V.int p)]) := by rw [← eB1, upd_same]; rfl
  rw [eB1]
  clear eB1 step
  refine b_fld (e_var 3) hx1 T.c_Solving T.a_Solving_width (by show 1 < 1000; decide) (fun H0' hs => e_var 0) (fun M3 M4 v sA3 sA4 rv => ⟨_, chg, ?_⟩)
  have rv : v = .int width := rv
  subst rv
  obtain ⟨B2, eB2⟩ : ∃ B2, upd (reb B1 M3 M4) x (.ins (He.ga K "Solving") dx (putF "width" (.int width) [("field", V.int p)])) = B2 := ⟨_, rfl⟩
  have hs2 : Same Hc B2 := by rw [← eB2]; exact Same.cutU (Same.trans hs1 reb_old) hcx
  have hx2 : B2 x = some (.ins (He.ga K "Solving") dx [("field", V.int p), ("width", V.int width)]) := by rw [← eB2, upd_same]; rfl
  rw [eB2]
  clear eB2
  -- lines
  have rl : rr.length = rows.length := by rw [← r1, List.length_map]
  have rowIn : ∀ z ∈ rr, z.l.length = width.toNat + 1 := fun z hz => hok.rs z.l (by rw [← r1]; exact List.mem_map_of_mem hz)
  refine b_fld (ρ := New (Lst.mk (rr.map fun z : RowA => Lst.mk (z.l.map fun m => m % p)))) (e_lc [("row", 5)] sc_Solving_init.nd (ei_old (E.there (e_var 2) (rowsL (hs2 _ _ hq1)))) (by have := hok.rl; omega) (fun s H C cl fp => tgt_name 5 sc_Solving_init.nd) (fun s H C cl fp H0' hs' z hz => e_lc [("number", 4)] sc_Solving_init.nd (ei_old (E.row (x := z) (e_var 5) (hs' _ _ (hs2 _ _ (r3 z hz))))) (by rw [rowIn z hz]; omega) (fun s H C cl fp => tgt_name 4 sc_Solving_init.nd) (fun s H C cl fp H0' hs y hy => E.fresh (e_mod p0 (e_var 4) (e_var 1))))) hx2 T.c_Solving T.a_Solving_lines (by show 2 < 1000; decide) (fun H0' hs => e_var 0) (fun M5 M6 v sA5 sA6 rv => ⟨_, chg, ?_⟩)
  have rv3 := Ty.mono (reb_sub hs2 sA5) (Ty.mono (reb_cut (H0 := cut Hc B2) (Same.trans (cut_some hs2) sA5)) rv)
  have em : (rr.map fun z : RowA => Lst.mk (z.l.map fun m => m % p)) = (rows.map fun row => row.map fun m => m % p).map Lst.mk := by
    rw [← r1, List.map_map, List.map_map]
    rfl
  rw [em] at rv3
  have hs3' : Same Hc (reb B2 M5 M6) := Same.trans hs2 reb_old
  have ex3 : reb B2 M5 M6 x = some (.ins (He.ga K "Solving") dx [("field", V.int p), ("width", V.int width)]) := reb_old _ _ hx2
  obtain ⟨B3, eB3⟩ : ∃ B3, reb B2 M5 M6 = B3 := ⟨_, rfl⟩
  rw [eB3] at rv3 hs3' ex3 ⊢
  have ep : putF ("lines" : Str) v [("field", V.int p), ("width", V.int width)] = ([("field", V.int p), ("width", V.int width), ("lines", v)] : List (Str × V)) := by rfl
  rw [ep]
  have rv4 : r (Lst.mk ((rows.map fun row => row.map fun m => m % p).map Lst.mk)) v (cut Hc (upd B3 x (.ins (He.ga K "Solving") dx [("field", V.int p), ("width", V.int width), ("lines", v)]))) := by
    obtain ⟨L, ys, rfl, hL, hA⟩ := rv3
    obtain ⟨ra, g1, g2, g3⟩ := rowsA hA
    rw [cut_upd hcx]
    have cx : cut Hc B3 x = some (.ins (He.ga K "Solving") dx [("field", V.int p), ("width", V.int width)]) := cut_new hcx ex3
    refine ⟨L, ys, rfl, by rw [upd_ne (ne_of hL cx (fun z => nomatch z))]; exact hL, ?_⟩
    rw [g2, ← g1]
    exact rowsR fun z hz => by
      show upd _ _ _ z.a = _
      rw [upd_ne (ne_of (g3 z hz) cx (fun z => nomatch z))]
      exact g3 z hz
  obtain ⟨B4, eB4⟩ : ∃ B4, upd B3 x (.ins (He.ga K "Solving") dx [("field", V.int p), ("width", V.int width), ("lines", v)]) = B4 := ⟨_, rfl⟩
  have hs4 : Same Hc B4 := by rw [← eB4]; exact Same.cutU hs3' hcx
  have hx4 : B4 x = some (.ins (He.ga K "Solving") dx [("field", V.int p), ("width", V.int width), ("lines", v)]) := by rw [← eB4, upd_same]
  rw [eB4] at rv4 ⊢
  clear eB4 rv3 ex3 hs3' eB3
  -- line_of
  refine b_fld (e_dic0 (α := Int)) hx4 T.c_Solving T.a_Solving_line_of (by show 3 < 1000; decide) (fun H0' hs => e_var 0) (fun M7 M8 vd sA7 sA8 rv => ⟨_, chg, ?_⟩)
  have rv5 := Ty.mono (reb_sub hs4 sA7) (Ty.mono (reb_cut (H0 := cut Hc B4) (Same.trans (cut_some hs4) sA7)) rv)
  have rv4' := Ty.mono (cut_mono (reb_old (H0 := B4) (H := M7) (H1 := M8))) rv4
  have hs5' : Same Hc (reb B4 M7 M8) := Same.trans hs4 reb_old
  have ex5 : reb B4 M7 M8 x = some (.ins (He.ga K "Solving") dx [("field", V.int p), ("width", V.int width), ("lines", v)]) := reb_old _ _ hx4
  obtain ⟨B5, eB5⟩ : ∃ B5, reb B4 M7 M8 = B5 := ⟨_, rfl⟩
  rw [eB5] at rv5 rv4' hs5' ex5 ⊢
  have ep : putF ("line_of" : Str) vd [("field", V.int p), ("width", V.int width), ("lines", v)] = solFs p width v vd := by rfl
  rw [ep]
  have SA : SolAt K (sol0 K p rows width) x (cut Hc (upd B5 x (.ins (He.ga K "Solving") dx (solFs p width v vd)))) := by
    obtain ⟨L, ys, rfl, hL, hA⟩ := rv4'
    obtain ⟨ra, g1, g2, g3⟩ := rowsA hA
    obtain ⟨Dd, kvs, rfl, hD, hK⟩ := rv5
    rw [cut_upd hcx]
    have cx : cut Hc B5 x = some (.ins (He.ga K "Solving") dx [("field", V.int p), ("width", V.int width), ("lines", .ref L)]) := cut_new hcx ex5
    refine ⟨dx, .ref L, .ref Dd, upd_same, ⟨L, ys, rfl, by rw [upd_ne (ne_of hL cx (fun z => nomatch z))]; exact hL, ?_⟩, Dd, kvs, rfl, by rw [upd_ne (ne_of hD cx (fun z => nomatch z))]; exact hD, KVs.intsK hK⟩
    rw [g2]
    show A2 ((rows.map fun row => row.map fun m => m % p).map Lst.mk) _ _
    rw [← g1]
    exact rowsR fun z hz => by
      show upd _ _ _ z.a = _
      rw [upd_ne (ne_of (g3 z hz) cx (fun z => nomatch z))]
      exact g3 z hz
  obtain ⟨B6, eB6⟩ : ∃ B6, upd B5 x (.ins (He.ga K "Solving") dx (solFs p width v vd)) = B6 := ⟨_, rfl⟩
  have hs6 : Same Hc B6 := by rw [← eB6]; exact Same.cutU hs5' hcx
  rw [eB6] at SA ⊢
  clear eB6 eB5
  -- the columns
  refine b_forRM (x := width) (fun i Hb => Same Hc Hb ∧ SolAt K ((rng 0 i).foldl clearS (sol0 K p rows width)) x (cut Hc Hb)) (fun _ => [.im (Adr.mk x), .im p, .im (Adr.mk q), .im width, .no, .no, .no]) T.m_range (e_var 3) (by omega) (tgt_name 6 sc_Solving_init.nd) (fun Hb sb => ⟨Same.trans hs6 sb, SA.mono (cut_mono sb)⟩) (Sub.of []) (fun Hb i hi ⟨sb, sa⟩ => ?_) (fun Hb ⟨sb, sa⟩ => ?_) nox_own
  · obtain ⟨o1, o2, o3, o4⟩ := solI_ok (K := K) hok i (by omega)
    obtain ⟨dx', L', Dd', ra', SF⟩ := sa.f
    refine b_callM (R := .cons (i : Int) .nil) (ok_Solving_clear T) hr (e_var 0) (cut_some sb _ _ SF.ins) (by rfl) (ea_cons (e_var 6) ea_nil) (fun σ H1 vs a1 pv => ?_)
    obtain ⟨v1, v2, rfl, pv1, pv2⟩ := pv
    have pv1 : v1 = .int (i : Int) := pv1
    have pv2 : v2 = [] := pv2
    subst pv1 pv2
    refine ⟨Hc, _, (i : Int), x, width.toNat + 1, rfl, Same.trans sb a1.same, sa.mono (cut_mono a1.same), o1.toSolIn, by omega, fun H' h1 h2 => ?_⟩
    have fl : FlatG [.im (Adr.mk x), .im p, .im (Adr.mk q), .im width, .no, .no, .im (i : Int)] := .im _ (.im _ (.im _ (.im _ (.no (.no (.im _ .nil))))))
    have a2 : At H' [.im (Adr.mk x), .im p, .im (Adr.mk q), .im width, .no, .no, .im (i : Int)] σ H' := At.flat a1 fl (Same.refl H')
    refine (b_nil (D := _) fun σ' H'' a3 => ?_) σ H' a2
    exact ⟨H', ⟨h1, by rw [rng_succ, List.foldl_append]; exact h2⟩, a3.sub (Sub.of [6])⟩
  · exact b_nil fun σ H' a => hq H' (Same.trans sb a.same) (sa.mono (cut_mono a.same))
end
end Lk

/-! LkZ -/
set_option Elab.async false
set_option linter.all false
set_option maxRecDepth 100000
set_option maxHeartbeats 4000000
set_option autoImplicit false
/-! known_by -/
namespace Lk
open PySem PySem.Spec PyProof.Rows L2
open Ty (r)
theorem sol_line {K : PySem.W.Frag} {s : Sol K} {n : Nat} {column : Int} (h : SolOk s n) (hw : 0 ≤ s.width ∧ s.width < 10000 ∧ s.width.toNat ≤ n) (hd : (dget s.lineOf column).isSome = true) : LineOk s column := by
  have e := some_getD (d := 0) hd
  have hm := h.ix _ (dget_mem e)
  have c2 : (atI s.lines ((dget s.lineOf column).getD 0)).isSome = true := atI_some hm.1 hm.2
  refine ⟨⟨hw.1, hw.2.1⟩, hd, c2, fun i hi => ?_⟩
  have hl : lineAt s column ∈ s.lines := by unfold lineAt; exact atI_mem (some_getD (d := []) c2)
  have hr := rng_mem hi
  have := (h.rows _ hl).1
  exact atI_some (by omega) (by omega)
section
variable {X : Cx} {H0 He Hc : Hp} {G G' : List Slot} {e a b c o tg i : Expr} {es : List Expr} {pos p p1 p2 apos : Pos} {D : Ends} {st : Stmt} {rest body els : List Stmt}
theorem b_parIS {i j : Nat} {α β : Type} [Im α] [Ty β] {u : α} {w : β} (P : Par2 X st a b i j) (ha : E X H0 G a (Val u)) (hb : E X H0 G b (New w)) (hr : ∀ H0', Same H0 H0' → B X H0' ((G.set i (.im u)).set j (.old w)) rest D)
    (hs : starEach [a, b] X.env = (false, eval a X.env) :: starEach [b] X.env := by rfl) (hs2 : starEach [b] X.env = (false, eval b X.env) :: starEach [] X.env := by rfl) : B X H0 G (st :: rest) D := B.seq fun σ H h0 =>
  P.go _ σ H (pa_out (pa_cons pe_in (pa_cons pe_in pa_nil hs2) hs) (ha σ H _ h0 fun v H1 s1 p1 => hb σ H1 _ (h0.ext s1) fun z H2 s2 p2 => ⟨v, z, rfl, fun H3 s3 => by
    have a1 := (((h0.ext s1).reb s2).ext s3).set (j := i) (s := .im u) (Ty.mono (Same.trans s2 s3) p1) fun z => z
    have a2 := a1.set (j := j) (s := .old w) (Ty.mono (reb_cut (h0.ext s1).same) p2) fun z => z
    exact hr _ reb_old _ H3 a2⟩))
theorem e_solving {K : PySem.W.Frag} {mg : Str → Option Value} (T : Tx K mg) (hK : X.K = K) (hmg : X.mg = mg) {m : Nat} {x y : Int} {rows : List (List Int)} {d : Expr} (hr : Room m X.A) (hk : 4 ≤ m) (hok : MkOk x rows y) (ha : E X H0 G a (Val x)) (hb : E X H0 G b (Val (Lst.mk (rows.map Lst.mk)))) (hd : E X H0 G d (Val y)) (hg : Gl X "Solving" := by rfl)
    (hst : starEach [a, b, d] X.env = (false, eval a X.env) :: starEach [b, d] X.env := by rfl) (hst2 : starEach [b, d] X.env = (false, eval b X.env) :: starEach [d] X.env := by rfl) (hst3 : starEach [d] X.env = (false, eval d X.env) :: starEach [] X.env := by rfl) (hpl : (backTo pos (starEach [b, d] X.env)).any (·.1) = false := by rfl) :
    E X H0 G (.Call (.Name "Solving" p) [a, b, d] [] pos) (New (mkSol K x rows y)) := fun σ H Q h0 q => by
  subst hK hmg
  obtain ⟨fd, F, hb'⟩ := ok_Solving_init (P := X.prog) (w := X.w) (base := X.base) T
  refine pe_out (pe_make T.k_Solving F (hr.mono hk) hg T.g_Solving hb' .nil pass0 (pa_cons pe_in (pa_cons pe_in (pa_cons pe_in pa_nil hst3) hst2) hst) (by decide) hst hpl) (ha σ H _ h0 fun v1 H1 s1 q1 => hb σ H1 _ (h0.ext s1) fun v2 H2 s2 q2 => hd σ H2 _ ((h0.ext s1).ext s2) fun v3 H3 s3 q3 => fun z dx hz hdx ne => ?_)
  have q1 : v1 = .int x := q1
  have q3 : v3 = .int y := q3
  subst q1 q3
  have sn : Same H3 (upd (upd H3 dx (.own z)) z (.ins (He.ga X.K "Solving") dx [])) := fun c u e => by
    rw [upd_ne (ne_of_none e hz), upd_ne (ne_of_none e hdx)]; exact e
  refine ⟨H3, z, dx, x, rows, v2, y, rfl, sn, upd_same, hz, Ty.mono s3 q2, hok, fun H' h1 h2 => ⟨rfl, q _ H' (Same.trans (Same.trans (Same.trans s1 s2) s3) h1) ⟨z, rfl, h2.mono (cut_anti (Same.trans (Same.trans s1 s2) s3) h1)⟩⟩⟩
end
section
variable {P : Program} {w : World} {K : PySem.W.Frag} {mg : Str → Option Value} {base : Heap}
def kbRows (p t : Int) (wishes : List (Option Int)) (files : List (Int × List (Option Int))) (rows : List (List Int × Int)) : List (List Int) := rows.map fun e => rowOf p t wishes files (lackedI wishes files) e.1 e.2
def kbSol (K : PySem.W.Frag) (p t : Int) (wishes : List (Option Int)) (files : List (Int × List (Option Int))) (rows : List (List Int × Int)) : Sol K := mkSol K p (kbRows p t wishes files rows) (lackedI wishes files).length
def kbF (s : Sol K) (places : List ((Int × Int) × Int)) (own : Int) (f : List (Option Int)) (e : Int × Option Int) : List (Option Int) := f ++ [if (e.2.isNone && isSingle s ((tget places own e.1).getD 0)) = true then some (entry (behindI s ((tget places own e.1).getD 0)) 0) else e.2]
def knownBy (K : PySem.W.Frag) (p t : Int) (wishes : List (Option Int)) (hand : Int) (files : List (Int × List (Option Int))) (rows : List (List Int × Int)) : List (Option Int) := (enm ((dget files ((wishOf wishes hand).getD 0)).getD [])).foldl (kbF (kbSol K p t wishes files rows) (lackedI wishes files) ((wishOf wishes hand).getD 0)) []
theorem kbF_len {s : Sol K} {places : List ((Int × Int) × Int)} {own : Int} : ∀ (l : List (Int × Option Int)) (f : List (Option Int)), (l.foldl (kbF s places own) f).length = f.length + l.length
  | [], f => by simp
  | x :: l, f => by
    show (l.foldl (kbF s places own) (kbF s places own f x)).length = _
    rw [kbF_len l]
    unfold kbF
    rw [List.length_append]
    show f.length + 1 + l.length = f.length + (l.length + 1)
    omega
structure KbOk (p t : Int) (wishes : List (Option Int)) (hand : Int) (files : List (Int × List (Option Int))) (rows : List (List Int × Int)) : Prop where
  lk : LkOk wishes files
  pn : (lackedI wishes files).length < 900
  rl : rows.length < 900
  ro : ∀ e ∈ rows, RowOk p t wishes files (lackedI wishes files) e.1
  p0 : smallP p
  ow : ∃ u, atI wishes hand = some (some u)
  fi : ∃ g, dget files ((wishOf wishes hand).getD 0) = some g ∧ g.length < 1000 ∧ ∀ e ∈ enm g, e.2 = none → (tget (lackedI wishes files) ((wishOf wishes hand).getD 0) e.1).isSome = true
theorem rowOf_len {p t : Int} {wishes : List (Option Int)} {files : List (Int × List (Option Int))} {places : List ((Int × Int) × Int)} {weights : List Int} {told : Int} : (rowOf p t wishes files places weights told).length = places.length + 1 := by
  have sl : (rowS p t wishes files places weights told).1.length = places.length := foldl_inv' (fun z : List Int × Int => z.1.length = places.length) (fun z y _ h => roOut_len.trans h) row0_len
  show ((rowS p t wishes files places weights told).1 ++ [_]).length = _
  rw [List.length_append, sl]
  rfl
theorem kb_mk {p t : Int} {wishes : List (Option Int)} {hand : Int} {files : List (Int × List (Option Int))} {rows : List (List Int × Int)} (h : KbOk p t wishes hand files rows) : MkOk p (kbRows p t wishes files rows) (lackedI wishes files).length := by
  have pn := h.pn
  have rl := h.rl
  refine ⟨h.p0, by omega, by unfold kbRows; rw [List.length_map]; omega, fun l hl => ?_⟩
  unfold kbRows at hl
  obtain ⟨e, _, rfl⟩ := List.mem_map.mp hl
  rw [rowOf_len]
  rfl
theorem ok_known_by (T : Tx K mg) : Cal P w K mg base 7 "known_by" ["p", "t", "wishes", "hand", "files", "rows"] (spG (fun i : Int × Int × ((List (Option Int))) × Int × ((Dic (List (Option Int)))) × ((Lst (List Int × Int))) => (.cons i.1 (.cons i.2.1 (.cons i.2.2.1 (.cons i.2.2.2.1 (.cons i.2.2.2.2.1 (.cons i.2.2.2.2.2 .nil))))))) (fun i => (fun (p : Int) (t : Int) (wishes : (List (Option Int))) (hand : Int) (files : (Dic (List (Option Int)))) (rows : (Lst (List Int × Int))) => KbOk p t wishes hand files.l rows.l) i.1 i.2.1 i.2.2.1 i.2.2.2.1 i.2.2.2.2.1 i.2.2.2.2.2) fun i => (fun (p : Int) (t : Int) (wishes : (List (Option Int))) (hand : Int) (files : (Dic (List (Option Int)))) (rows : (Lst (List Int × Int))) => Val (knownBy K p t wishes hand files.l rows.l)) i.1 i.2.1 i.2.2.1 i.2.2.2.1 i.2.2.2.2.1 i.2.2.2.2.2) := by
  obtain ⟨fd, F⟩ := T.f_known_by
  refine cal_of F T.g_known_by (fn_ok (fun i => [.im (i.1), .im (i.2.1), .im (i.2.2.1), .im (i.2.2.2.1), .old (i.2.2.2.2.1), .old (i.2.2.2.2.2)]) 9 F sc_known_by (fun i => (ent_im (ent_im (ent_im (ent_im (ent_old (ent_old ent_nil))))))) (fun _ => rfl) (fun _ => rfl) fun cdv A outer s H Ex i hr hp => ?_) (fun _ _ _ _ _ _ us hl => match us, hl with | [_, _, _, _, _, _], _ => rfl)
  obtain ⟨p, t, wishes, hand, files, rows⟩ := i
  have hp : KbOk p t wishes hand files.l rows.l := hp
  obtain ⟨g, fg, gl, gp⟩ := hp.fi
  have pn := hp.pn
  refine b_parIS (par_c 6 7 rfl sc_known_by.nd) (e_call (ok_own_number T) hr (wishes, hand) hp.ow (ea_cons (e_var 2) (ea_cons (e_var 3) ea_nil))) (e_call (ok_lacked T) hr (wishes, files) hp.lk (ea_cons (e_var 2) (ea_cons (e_old 4).ofOld ea_nil))) (fun H1 hs1 => ?_)
  refine b_lcO (ff := fun e : List Int × Int => Lst.mk (rowOf p t wishes files.l (lackedI wishes files.l) e.1 e.2)) 8 [("weights", 9), ("told", 10)] sc_known_by.nd (ei_old (e_old 5)) (by have := hp.rl; show rows.l.length < _; omega) (fun s H C cl fp => tgt_2 9 10 rfl sc_known_by.nd) (fun s H C cl fp H0' hs x hx => e_call (ok_row_of T) hr (p, t, wishes, files, ⟨lackedI wishes files.l⟩, x.1, x.2) (hp.ro x hx) (ea_cons (e_var 0) (ea_cons (e_var 1) (ea_cons (e_var 2) (ea_cons (e_old 4).ofOld (ea_cons (e_old 7).ofOld (ea_cons (e_var 9) (ea_cons (e_var 10) ea_nil)))))))) (fun H2 hs2 => ?_)
  have em : (rows.l.map fun e : List Int × Int => Lst.mk (rowOf p t wishes files.l (lackedI wishes files.l) e.1 e.2)) = (kbRows p t wishes files.l rows.l).map Lst.mk := by
    unfold kbRows
    rw [List.map_map]
    rfl
  rw [em]
  have mk := kb_mk hp
  refine b_parSO (u := kbSol K p t wishes files.l rows.l) (par_l 11 12 rfl sc_known_by.nd) (e_solving T rfl rfl hr (by decide) mk (e_var 0) (e_old 8).ofOld (e_lenDT T.m_len (e_old 7).ofOld)) (fun _ _ => e_lst0 (α := Option Int)) (fun H3 hs3 => ?_)
  obtain ⟨o1, o2, o3, o4⟩ := solI_ok (K := K) mk (((lackedI wishes files.l).length : Int)).toNat (Nat.le_refl _)
  have o1 : SolOk (kbSol K p t wishes files.l rows.l) ((((lackedI wishes files.l).length : Int)).toNat + 1) := o1
  have o2 : (kbSol K p t wishes files.l rows.l).width = ((lackedI wishes files.l).length : Int) := o2
  have hw : 0 ≤ (kbSol K p t wishes files.l rows.l).width ∧ (kbSol K p t wishes files.l rows.l).width < 10000 ∧ (kbSol K p t wishes files.l rows.l).width.toNat ≤ (((lackedI wishes files.l).length : Int)).toNat + 1 := by rw [o2]; omega
  refine b_forF (fun f : List (Option Int) => [.im p, .im t, .im wishes, .im hand, .old files, .old rows, .im ((wishOf wishes hand).getD 0), .old (DiT.mk (lackedI wishes files.l)), .no, .no, .no, .old (kbSol K p t wishes files.l rows.l), .own f, .no, .no]) (kbF (kbSol K p t wishes files.l rows.l) (lackedI wishes files.l) ((wishOf wishes hand).getD 0)) [] (ei_enumT T.m_enumerate (e_getK hr fg (e_old 4).ofOld (e_var 6))) (tgt_2 13 14 rfl sc_known_by.nd) (Sub.of [8]) (fun H0' hs i x f e ef => ?_) (fun H0' hs => ?_) nox_own
  · have fl : f.length < 1000000 := by
      rw [ef, kbF_len]
      have : ((enm g).take i).length ≤ (enm g).length := by rw [List.length_take]; omega
      rw [enm_len] at this
      show 0 + ((enm g).take i).length < _
      omega
    have hx := List.mem_of_getElem? e
    refine b_if (k := x.2.isNone && isSingle (kbSol K p t wishes files.l rows.l) ((tget (lackedI wishes files.l) ((wishOf wishes hand).getD 0) x.1).getD 0)) (et_w (ew_and (et_isN (e_var 14)) fun h => ew_and1 (et_val ?_))) (fun h => ?_) fun h => ?_
    · have hn : x.2 = none := by cases hx2 : x.2 with | none => rfl | some u => rw [hx2] at h; cases h
      exact e_meth (ok_Solving_is_single T) hr (kbSol K p t wishes files.l rows.l, (tget (lackedI wishes files.l) ((wishOf wishes hand).getD 0) x.1).getD 0) (fun hd => sol_line o1 hw hd) (sol_no "is_single" (fun _ _ _ _ => by rfl) _) (e_old 11).ofOld (ea_cons (e_getT hr (some_getD (gp x hx hn)) (e_old 7).ofOld (e_tup2 (e_var 6) (e_var 13))) ea_nil)
    · obtain ⟨h1, h2⟩ := Bool.and_eq_true_iff.mp h
      have hn : x.2 = none := by cases hx2 : x.2 with | none => rfl | some u => rw [hx2] at h1; cases h1
      obtain ⟨h3, h4⟩ := Bool.and_eq_true_iff.mp h2
      have lo := sol_line o1 hw h3
      have ek : kbF (kbSol K p t wishes files.l rows.l) (lackedI wishes files.l) ((wishOf wishes hand).getD 0) f x = f ++ [some (entry (behindI (kbSol K p t wishes files.l rows.l) ((tget (lackedI wishes files.l) ((wishOf wishes hand).getD 0) x.1).getD 0)) 0)] := by
        unfold kbF
        rw [if_pos h]
      rw [ek]
      refine b_app 12 (E.toSome (e_ixL (some_getD (d := 0) ?_) (E.val ?_) e_int)) (b_go (b_e [13, 14] (Same.refl _))) fl
      · have hl : lineAt (kbSol K p t wishes files.l rows.l) ((tget (lackedI wishes files.l) ((wishOf wishes hand).getD 0) x.1).getD 0) ∈ (kbSol K p t wishes files.l rows.l).lines := by unfold lineAt; exact atI_mem (some_getD (d := []) lo.c2)
        have ln := (o1.rows _ hl).1
        have bl : (behindI (kbSol K p t wishes files.l rows.l) ((tget (lackedI wishes files.l) ((wishOf wishes hand).getD 0) x.1).getD 0)).length = 1 := by
          unfold behindI cutL
          rw [List.length_take, List.length_drop, ln, o2, HT.sIx_nat, Int.toNat_natCast]
          show min ((lackedI wishes files.l).length + 1 - min (lackedI wishes files.l).length ((lackedI wishes files.l).length + 1)) _ = 1
          omega
        exact atI_some (by decide) (by rw [bl]; decide)
      · exact e_meth (ok_Solving_behind T) hr (kbSol K p t wishes files.l rows.l, (tget (lackedI wishes files.l) ((wishOf wishes hand).getD 0) x.1).getD 0) lo (sol_no "behind" (fun _ _ _ _ => by rfl) _) (e_old 11).ofOld (ea_cons (e_getT hr (some_getD (gp x hx hn)) (e_old 7).ofOld (e_tup2 (e_var 6) (e_var 13))) ea_nil)
    · have ek : kbF (kbSol K p t wishes files.l rows.l) (lackedI wishes files.l) ((wishOf wishes hand).getD 0) f x = f ++ [x.2] := by
        unfold kbF
        rw [if_neg (by rw [h]; decide)]
      rw [ek]
      exact b_app 12 (e_var 14) (b_go (b_e [13, 14] (Same.refl _))) fl
  · refine b_retV (e_tupL T.m_tuple (e_own 12)) (Same.trans hs1 (Same.trans hs2 (Same.trans hs3 hs))) (show _ = knownBy K p t wishes hand files.l rows.l from ?_)
    unfold knownBy
    rw [fg]
    rfl
end
end Lk

/-! LkH1 -/
set_option Elab.async false
set_option linter.all false
set_option maxRecDepth 100000
set_option maxHeartbeats 4000000
set_option autoImplicit false
/-! A house: how it stands in the heap; what is read. -/
namespace Lk
open PySem PySem.Spec PyProof.Rows L2
open Ty (r)
structure DayS where
  wishes : List (Option Int)
  spares : Int
  files : List (Int × List Int)
  heard : List (List (Option Int))
structure Hou (K : PySem.W.Frag) where
  hands : Int
  t : Int
  p : Int
  next : Int
  files : List (Int × List Int)
  away : List (Int × Bool)
  byDay : Bool
  day : Option DayS
  cries : List Int
/-- a list of ints and Nones by its address -/
structure RowO where
  a : Addr
  l : List (Option Int)
instance : Im RowO where
  r x v _ := v = .ref x.a
  mono _ h := h
  keep _ h := h
def vO : Option Int → V
  | none => .non
  | some i => .int i
theorem vO_r {o : Option Int} {H : Hp} : r o (vO o) H := by cases o <;> rfl
theorem r_vO {o : Option Int} {v : V} {H : Hp} (h : r o v H) : v = vO o := by cases o <;> exact h
theorem A2.opts : ∀ {l : List (Option Int)} {xs : List V} {H : Hp}, A2 l xs H → xs = l.map vO
  | [], _, _, .nil => rfl
  | a :: l, _, H, .cons h t => by
    rw [r_vO h, A2.opts (l := l) t]
    rfl
theorem A2.of_opts {H : Hp} : ∀ {l : List (Option Int)}, A2 l (l.map vO) H
  | [] => .nil
  | a :: l => .cons vO_r A2.of_opts
def RowO.at (x : RowO) (H : Hp) : Prop := H x.a = some (.lst (x.l.map vO))
def dayFs (vw : V) (sp : Int) (vf vh : V) : List (Str × V) := [("day_wishes", vw), ("day_spares", V.int sp), ("day_files", vf), ("day_heard", vh)]
def houFs (hands t p next : Int) (vf va : V) (bd : Bool) (vd vc : V) : List (Str × V) := [("house_hands", V.int hands), ("house_t", V.int t), ("house_p", V.int p), ("house_next", V.int next), ("house_files", vf), ("house_away", va), ("house_by_day", V.bl bd), ("house_day", vd), ("house_cries", vc)]
structure DayF (K : PySem.W.Frag) (d : DayS) (q dx Fd Hd : Addr) (vw : V) (ro : List RowO) (C : Hp) : Prop where
  ins : C q = some (.ins (He.ga K "Day") dx (dayFs vw d.spares (.ref Fd) (.ref Hd)))
  wis : r d.wishes vw C
  fil : ∃ kvs, C Fd = some (.dK kvs) ∧ KVs d.files kvs C
  lst : C Hd = some (.lst (ro.map fun x => V.ref x.a))
  rows : ∀ x ∈ ro, x.at C
  eq : ro.map (·.l) = d.heard
  nd : (ro.map (·.a)).Nodup
theorem DayF.mono {K : PySem.W.Frag} {d : DayS} {q dx Fd Hd : Addr} {vw : V} {ro : List RowO} {C C' : Hp} (h : DayF K d q dx Fd Hd vw ro C) (e : Same C C') : DayF K d q dx Fd Hd vw ro C' :=
  ⟨e _ _ h.ins, Ty.mono e h.wis, let ⟨k, h1, h2⟩ := h.fil; ⟨k, e _ _ h1, h2.mono e⟩, e _ _ h.lst, fun x hx => e _ _ (h.rows x hx), h.eq, h.nd⟩
/-- the day's value; its dict of files is none of two others -/
def DayV (K : PySem.W.Frag) (o : Option DayS) (F A : Addr) (v : V) (C : Hp) : Prop := match o with
  | none => v = .non
  | some d => ∃ q dx Fd Hd vw ro, v = .ref q ∧ Fd ≠ F ∧ Fd ≠ A ∧ DayF K d q dx Fd Hd vw ro C
theorem DayV.mono {K : PySem.W.Frag} {o : Option DayS} {F A : Addr} {v : V} {C C' : Hp} (h : DayV K o F A v C) (e : Same C C') : DayV K o F A v C' := by
  cases o with
  | none => exact h
  | some d => obtain ⟨q, dx, Fd, Hd, vw, ro, h1, h2, h3, h4⟩ := h; exact ⟨q, dx, Fd, Hd, vw, ro, h1, h2, h3, h4.mono e⟩
structure HouF (K : PySem.W.Frag) (h : Hou K) (p dx F A : Addr) (vd vc : V) (C : Hp) : Prop where
  ins : C p = some (.ins (He.ga K "House") dx (houFs h.hands h.t h.p h.next (.ref F) (.ref A) h.byDay vd vc))
  fil : ∃ kvs, C F = some (.dK kvs) ∧ KVs h.files kvs C
  awa : ∃ kvs, C A = some (.dK kvs) ∧ KVs h.away kvs C
  ne : A ≠ F
  day : DayV K h.day F A vd C
  cry : r h.cries vc C
theorem HouF.mono {K : PySem.W.Frag} {h : Hou K} {p dx F A : Addr} {vd vc : V} {C C' : Hp} (x : HouF K h p dx F A vd vc C) (e : Same C C') : HouF K h p dx F A vd vc C' :=
  ⟨e _ _ x.ins, let ⟨k, h1, h2⟩ := x.fil; ⟨k, e _ _ h1, h2.mono e⟩, let ⟨k, h1, h2⟩ := x.awa; ⟨k, e _ _ h1, h2.mono e⟩, x.ne, x.day.mono e, Ty.mono e x.cry⟩
def HouAt (K : PySem.W.Frag) (h : Hou K) (p : Addr) (C : Hp) : Prop := ∃ dx F A vd vc, HouF K h p dx F A vd vc C
theorem HouAt.mono {K : PySem.W.Frag} {h : Hou K} {p : Addr} {C C' : Hp} (x : HouAt K h p C) (e : Same C C') : HouAt K h p C' := let ⟨dx, F, A, vd, vc, y⟩ := x; ⟨dx, F, A, vd, vc, y.mono e⟩
instance (K : PySem.W.Frag) : Ty (Hou K) where
  r h v H := ∃ p, v = .ref p ∧ HouAt K h p H
  mono e h := let ⟨p, h1, h2⟩ := h; ⟨p, h1, h2.mono e⟩
/-- a day as a thing that is read -/
structure DayR (K : PySem.W.Frag) where
  d : DayS
instance (K : PySem.W.Frag) : Ty (DayR K) where
  r x v H := ∃ q dx Fd Hd vw ro, v = .ref q ∧ DayF K x.d q dx Fd Hd vw ro H
  mono e h := let ⟨q, dx, Fd, Hd, vw, ro, h1, h2⟩ := h; ⟨q, dx, Fd, Hd, vw, ro, h1, h2.mono e⟩
section
variable {hands t p next : Int} {vf va vd vc vw vh : V} {bd : Bool} {sp : Int}
theorem hf_hands : (houFs hands t p next vf va bd vd vc).lookup ("house_hands" : Str) = some (V.int hands) := by rfl
theorem hf_t : (houFs hands t p next vf va bd vd vc).lookup ("house_t" : Str) = some (V.int t) := by rfl
theorem hf_p : (houFs hands t p next vf va bd vd vc).lookup ("house_p" : Str) = some (V.int p) := by rfl
theorem hf_next : (houFs hands t p next vf va bd vd vc).lookup ("house_next" : Str) = some (V.int next) := by rfl
theorem hf_files : (houFs hands t p next vf va bd vd vc).lookup ("house_files" : Str) = some vf := by rfl
theorem hf_away : (houFs hands t p next vf va bd vd vc).lookup ("house_away" : Str) = some va := by rfl
theorem hf_byDay : (houFs hands t p next vf va bd vd vc).lookup ("house_by_day" : Str) = some (V.bl bd) := by rfl
theorem hf_day : (houFs hands t p next vf va bd vd vc).lookup ("house_day" : Str) = some vd := by rfl
theorem hf_cries : (houFs hands t p next vf va bd vd vc).lookup ("house_cries" : Str) = some vc := by rfl
theorem df_wishes : (dayFs vw sp vf vh).lookup ("day_wishes" : Str) = some vw := by rfl
theorem df_spares : (dayFs vw sp vf vh).lookup ("day_spares" : Str) = some (V.int sp) := by rfl
theorem df_files : (dayFs vw sp vf vh).lookup ("day_files" : Str) = some vf := by rfl
theorem df_heard : (dayFs vw sp vf vh).lookup ("day_heard" : Str) = some vh := by rfl
end
section
variable {P : Program} {w : World} {K : PySem.W.Frag} {mg : Str → Option Value} {base : Heap}
/-- what is read of an attribute -/
abbrev Rd1 (K : PySem.W.Frag) {α β : Type} [Ty α] [Ty β] (x : α) (f : Str) (u : β) : Prop := ∀ v H, r x v H → ∃ C fs z, IsIns C fs v H ∧ Cls K C ∧ NoAttr K C f ∧ fs.lookup f = some z ∧ r u z H
theorem h_hands (T : Tx K mg) (h : Hou K) : Rd1 K h "house_hands" h.hands := fun v H ⟨p, e, dx, F, A, vd, vc, x⟩ => ⟨_, _, _, ⟨p, dx, e, x.ins⟩, T.c_House, T.a_House_house_hands, hf_hands, rfl⟩
theorem h_t (T : Tx K mg) (h : Hou K) : Rd1 K h "house_t" h.t := fun v H ⟨p, e, dx, F, A, vd, vc, x⟩ => ⟨_, _, _, ⟨p, dx, e, x.ins⟩, T.c_House, T.a_House_house_t, hf_t, rfl⟩
theorem h_p (T : Tx K mg) (h : Hou K) : Rd1 K h "house_p" h.p := fun v H ⟨p, e, dx, F, A, vd, vc, x⟩ => ⟨_, _, _, ⟨p, dx, e, x.ins⟩, T.c_House, T.a_House_house_p, hf_p, rfl⟩
theorem h_next (T : Tx K mg) (h : Hou K) : Rd1 K h "house_next" h.next := fun v H ⟨p, e, dx, F, A, vd, vc, x⟩ => ⟨_, _, _, ⟨p, dx, e, x.ins⟩, T.c_House, T.a_House_house_next, hf_next, rfl⟩
theorem h_byDay (T : Tx K mg) (h : Hou K) : Rd1 K h "house_by_day" h.byDay := fun v H ⟨p, e, dx, F, A, vd, vc, x⟩ => ⟨_, _, _, ⟨p, dx, e, x.ins⟩, T.c_House, T.a_House_house_by_day, hf_byDay, rfl⟩
theorem h_files (T : Tx K mg) (h : Hou K) : Rd1 K h "house_files" (Dic.mk h.files) := fun v H ⟨p, e, dx, F, A, vd, vc, x⟩ => ⟨_, _, _, ⟨p, dx, e, x.ins⟩, T.c_House, T.a_House_house_files, hf_files, let ⟨k, h1, h2⟩ := x.fil; ⟨F, k, rfl, h1, h2⟩⟩
theorem h_away (T : Tx K mg) (h : Hou K) : Rd1 K h "house_away" (Dic.mk h.away) := fun v H ⟨p, e, dx, F, A, vd, vc, x⟩ => ⟨_, _, _, ⟨p, dx, e, x.ins⟩, T.c_House, T.a_House_house_away, hf_away, let ⟨k, h1, h2⟩ := x.awa; ⟨A, k, rfl, h1, h2⟩⟩
theorem h_cries (T : Tx K mg) (h : Hou K) : Rd1 K h "house_cries" h.cries := fun v H ⟨p, e, dx, F, A, vd, vc, x⟩ => ⟨_, _, _, ⟨p, dx, e, x.ins⟩, T.c_House, T.a_House_house_cries, hf_cries, x.cry⟩
/-- the day, where there is one -/
theorem h_day (T : Tx K mg) (h : Hou K) {d : DayS} (hd : h.day = some d) : Rd1 K h "house_day" (DayR.mk (K := K) d) := fun v H ⟨p, e, dx, F, A, vd, vc, x⟩ => ⟨_, _, _, ⟨p, dx, e, x.ins⟩, T.c_House, T.a_House_house_day, hf_day, by
  have := x.day
  rw [hd] at this
  obtain ⟨q, dx', Fd, Hd, vw, ro, g1, _, _, g2⟩ := this
  exact ⟨q, dx', Fd, Hd, vw, ro, g1, g2⟩⟩
/-- a day or None: only whether it is None -/
structure IsDay where
  b : Bool
instance : Ty IsDay where
  r x v _ := (v = .non) ↔ x.b = false
  mono _ h := h
theorem h_isDay (T : Tx K mg) (h : Hou K) : Rd1 K h "house_day" (IsDay.mk h.day.isSome) := fun v H ⟨p, e, dx, F, A, vd, vc, x⟩ => by
  have hx := x.ins
  refine Exists.intro _ (Exists.intro _ (Exists.intro _ (And.intro (Exists.intro p (Exists.intro dx (And.intro e hx))) (And.intro T.c_House (And.intro T.a_House_house_day (And.intro hf_day ?_))))))
  show vd = .non ↔ h.day.isSome = false
  have := x.day
  cases hd : h.day with
  | none => rw [hd] at this; have this : vd = .non := this; rw [this]; exact ⟨fun _ => rfl, fun _ => rfl⟩
  | some d =>
    rw [hd] at this
    obtain ⟨q, dx', Fd, Hd, vw, ro, g1, _, _, g2⟩ := this
    rw [g1]
    exact ⟨(fun z => nomatch z), (fun z => nomatch z)⟩
theorem d_wishes (T : Tx K mg) (d : DayR K) : Rd1 K d "day_wishes" d.d.wishes := fun v H ⟨q, dx, Fd, Hd, vw, ro, e, x⟩ => ⟨_, _, _, ⟨q, dx, e, x.ins⟩, T.c_Day, T.a_Day_day_wishes, df_wishes, x.wis⟩
theorem d_spares (T : Tx K mg) (d : DayR K) : Rd1 K d "day_spares" d.d.spares := fun v H ⟨q, dx, Fd, Hd, vw, ro, e, x⟩ => ⟨_, _, _, ⟨q, dx, e, x.ins⟩, T.c_Day, T.a_Day_day_spares, df_spares, rfl⟩
theorem d_files (T : Tx K mg) (d : DayR K) : Rd1 K d "day_files" (Dic.mk d.d.files) := fun v H ⟨q, dx, Fd, Hd, vw, ro, e, x⟩ => ⟨_, _, _, ⟨q, dx, e, x.ins⟩, T.c_Day, T.a_Day_day_files, df_files, let ⟨k, h1, h2⟩ := x.fil; ⟨Fd, k, rfl, h1, h2⟩⟩
theorem rowsO {ro : List RowO} {H : Hp} (h : ∀ x ∈ ro, x.at H) : A2 ((ro.map (·.l)).map Lst.mk) (ro.map fun x => V.ref x.a) H := by
  induction ro with
  | nil => exact .nil
  | cons x ro ih => exact .cons ⟨x.a, _, rfl, h x (by simp), A2.of_opts⟩ (ih fun y hy => h y (List.mem_cons_of_mem _ hy))
theorem d_heard (T : Tx K mg) (d : DayR K) : Rd1 K d "day_heard" (Lst.mk (d.d.heard.map Lst.mk)) := fun v H ⟨q, dx, Fd, Hd, vw, ro, e, x⟩ => ⟨_, _, _, ⟨q, dx, e, x.ins⟩, T.c_Day, T.a_Day_day_heard, df_heard, Hd, _, rfl, x.lst, by rw [← x.eq]; exact rowsO x.rows⟩
theorem hou_no (nm : Str) (hn : ∀ (hands t p next : Int) (vf va : V) (bd : Bool) (vd vc : V), (houFs hands t p next vf va bd vd vc).lookup nm = none) (h : Hou K) : ∀ v H, r h v H → ∃ fs, IsIns (He.ga K "House") fs v H ∧ fs.lookup nm = none := fun v H ⟨p, e, dx, F, A, vd, vc, x⟩ => ⟨_, ⟨p, dx, e, x.ins⟩, hn _ _ _ _ _ _ _ _ _⟩
end
section
variable {X : Cx} {H0 : Hp} {G : List Slot} {a : Expr} {j : Nat} {p' pos : Pos} {x : IsDay}
theorem e_isNd (ha : E X H0 G a (Val x)) : E X H0 G (.Compare a [.Is] [.Constant .none j p'] pos) (Val (!x.b)) := fun σ H Q h0 q =>
  pe_out (pe_cmp (pc_isN pe_in) rfl) (ha σ H _ h0 fun v H1 s1 p1 => q _ H1 s1 (by
    have p1 : v = .non ↔ x.b = false := p1
    by_cases h : v = .non
    · rw [decide_eq_true h, p1.mp h]; rfl
    · rw [decide_eq_false h]
      cases hb : x.b with
      | false => exact absurd (p1.mpr hb) h
      | true => rfl))
theorem et_isNd (ha : E X H0 G a (Val x)) : ET X H0 G (.Compare a [.Is] [.Constant .none j p'] pos) (!x.b) := fun σ H Q h0 q =>
  pt_out (pt_cmp (pc_isN pe_in) rfl) (ha σ H _ h0 fun v H1 s1 p1 => ⟨_, by
    have p1 : v = .non ↔ x.b = false := p1
    by_cases h : v = .non
    · rw [decide_eq_true h, p1.mp h]; rfl
    · rw [decide_eq_false h]
      cases hb : x.b with
      | false => exact absurd (p1.mpr hb) h
      | true => rfl, q H1 s1⟩)
theorem b_endN {D : Ends} {He : Hp} (hs : Same He H0) (hD : D.nx = (endsOf (Val ()) He).nx := by rfl) : B X H0 G [] D := b_nil fun σ H a => by
  rw [hD]
  exact ⟨Same.trans hs a.same, rfl⟩
end
section
variable {P : Program} {w : World} {K : PySem.W.Frag} {mg : Str → Option Value} {base : Heap}
theorem ok_House_refuse_by_day (T : Tx K mg) : CalM P w K mg base 1 (He.ga K "House") "refuse_by_day" ["self"] (spG (fun i : ((Hou K)) => (.cons i .nil)) (fun i => (fun (self : (Hou K)) => self.byDay = false) i) fun i => (fun (self : (Hou K)) => Val ()) i) := by
  obtain ⟨fd, F⟩ := T.f_House_refuse_by_day
  refine calM_of F T.e_House_refuse_by_day T.c_House (fn_ok (fun i => [.old (i)]) 0 F sc_House_refuse_by_day (fun i => (ent_old ent_nil)) (fun _ => rfl) (fun _ => rfl) fun cdv A outer s H Ex i hr hp => ?_) (fun _ _ _ _ _ _ us hl => match us, hl with | [_], _ => rfl)
  revert i; intro self hp
  have hp : self.byDay = false := hp
  exact b_ifN (et_val (e_fldO (h_byDay T self) (e_old 0)).ofOld) hp (b_endN (Same.refl _))
theorem ok_House_refuse_no_hand (T : Tx K mg) : CalM P w K mg base 2 (He.ga K "House") "refuse_no_hand" ["self", "hand"] (spG (fun i : ((Hou K)) × Int => (.cons i.1 (.cons i.2 .nil))) (fun i => (fun (self : (Hou K)) (hand : Int) => 0 ≤ hand ∧ hand < self.hands) i.1 i.2) fun i => (fun (self : (Hou K)) (hand : Int) => Val ()) i.1 i.2) := by
  obtain ⟨fd, F⟩ := T.f_House_refuse_no_hand
  refine calM_of F T.e_House_refuse_no_hand T.c_House (fn_ok (fun i => [.old (i.1), .im (i.2)]) 0 F sc_House_refuse_no_hand (fun i => (ent_old (ent_im ent_nil))) (fun _ => rfl) (fun _ => rfl) fun cdv A outer s H Ex i hr hp => ?_) (fun _ _ _ _ _ _ us hl => match us, hl with | [_, _], _ => rfl)
  obtain ⟨self, hand⟩ := i
  have hp : 0 ≤ hand ∧ hand < self.hands := hp
  refine b_ifN (et_not (et_val (e_call (ok_is_within T) hr (hand, 0, self.hands - 1) trivial (ea_cons (e_var 1) (ea_cons e_int (ea_cons (e_sub (e_fldO (h_hands T self) (e_old 0)).ofOld e_int) ea_nil)))))) ?_ (b_endN (Same.refl _))
  show (!(decide (0 ≤ hand) && decide (hand ≤ self.hands - 1))) = false
  rw [decide_eq_true hp.1, decide_eq_true (by omega)]
  rfl
theorem ok_House_files (T : Tx K mg) : CalM P w K mg base 1 (He.ga K "House") "files" ["self"] (spG (fun i : ((Hou K)) => (.cons i .nil)) (fun i => (fun (self : (Hou K)) => self.files.length < 64) i) fun i => (fun (self : (Hou K)) => Val (isort (self.files.map (·.1)))) i) := by
  obtain ⟨fd, F⟩ := T.f_House_files
  refine calM_of F T.e_House_files T.c_House (fn_ok (fun i => [.old (i)]) 0 F sc_House_files (fun i => (ent_old ent_nil)) (fun _ => rfl) (fun _ => rfl) fun cdv A outer s H Ex i hr hp => ?_) (fun _ _ _ _ _ _ us hl => match us, hl with | [_], _ => rfl)
  revert i; intro self hp
  have hp : self.files.length < 64 := hp
  exact b_ret (e_tupL T.m_tuple (E.val (e_sortK rfl T.m_sorted hp (e_fldO (h_files T self) (e_old 0)).ofOld))) (Same.refl _)
def heardLen (d : DayS) : Nat := (d.heard.headD []).length
theorem ok_House_next_number (T : Tx K mg) : CalM P w K mg base 1 (He.ga K "House") "next_number" ["self"] (spG (fun i : ((Hou K)) => (.cons i .nil)) (fun i => (fun (self : (Hou K)) => self.byDay = true ∧ ∃ d, self.day = some d ∧ d.heard ≠ [] ∧ heardLen d < self.cries.length ∧ self.cries.length < 1000000) i) fun i => (fun (self : (Hou K)) => Val ((atI self.cries (((self.day.map heardLen).getD 0 : Nat) : Int)).getD 0)) i) := by
  obtain ⟨fd, F⟩ := T.f_House_next_number
  refine calM_of F T.e_House_next_number T.c_House (fn_ok (fun i => [.old (i)]) 1 F sc_House_next_number (fun i => (ent_old ent_nil)) (fun _ => rfl) (fun _ => rfl) fun cdv A outer s H Ex i hr hp => ?_) (fun _ _ _ _ _ _ us hl => match us, hl with | [_], _ => rfl)
  revert i; intro self hp
  have hp : self.byDay = true ∧ ∃ d, self.day = some d ∧ d.heard ≠ [] ∧ heardLen d < self.cries.length ∧ self.cries.length < 1000000 := hp
  obtain ⟨h1, d, h2, h3, h4, h5⟩ := hp
  refine b_ifN (et_not (et_val (e_fldO (h_byDay T self) (e_old 0)).ofOld)) (by rw [h1]; rfl) ?_
  have e0 : atI (d.heard.map Lst.mk) 0 = some (Lst.mk (d.heard.headD [])) := by
    cases hh : d.heard with
    | nil => exact absurd hh h3
    | cons x l => exact atI_zero
  refine b_set 1 (e_lenL T.m_len (e_ixO e0 (e_fldO (d_heard T ⟨d⟩) (e_fldO (h_day T self h2) (e_old 0))) e_int).ofOld) ?_ sc_House_next_number.nd
  refine b_ifN (et_ge (e_var 1) (e_lenT T.m_len (e_fldO (h_cries T self) (e_old 0)).ofOld h5)) (decide_eq_false (by show ¬ (self.cries.length : Int) ≤ (heardLen d : Int); omega)) ?_
  exact b_retV (e_ixT (some_getD (d := 0) (atI_some (i := ((heardLen d : Nat) : Int)) (by omega) (by omega))) (e_fldO (h_cries T self) (e_old 0)).ofOld (e_var 1)) (Same.refl _) (show _ = (atI self.cries (((self.day.map heardLen).getD 0 : Nat) : Int)).getD 0 by rw [h2]; rfl)
def heardOf (day : Option DayS) (hand : Int) : List (Option Int) := match day with
  | none => []
  | some d => (atI d.heard hand).getD []
theorem ok_House_heard (T : Tx K mg) : CalM P w K mg base 3 (He.ga K "House") "heard" ["self", "hand"] (spG (fun i : ((Hou K)) × Int => (.cons i.1 (.cons i.2 .nil))) (fun i => (fun (self : (Hou K)) (hand : Int) => (0 ≤ hand ∧ hand < self.hands) ∧ ∀ d, self.day = some d → (atI d.heard hand).isSome = true) i.1 i.2) fun i => (fun (self : (Hou K)) (hand : Int) => Val (heardOf self.day hand)) i.1 i.2) := by
  obtain ⟨fd, F⟩ := T.f_House_heard
  refine calM_of F T.e_House_heard T.c_House (fn_ok (fun i => [.old (i.1), .im (i.2)]) 0 F sc_House_heard (fun i => (ent_old (ent_im ent_nil))) (fun _ => rfl) (fun _ => rfl) fun cdv A outer s H Ex i hr hp => ?_) (fun _ _ _ _ _ _ us hl => match us, hl with | [_, _], _ => rfl)
  obtain ⟨self, hand⟩ := i
  have hp : (0 ≤ hand ∧ hand < self.hands) ∧ ∀ d, self.day = some d → (atI d.heard hand).isSome = true := hp
  obtain ⟨h1, h2⟩ := hp
  refine b_drop (e_meth (ok_House_refuse_no_hand T) hr (self, hand) h1 (hou_no "refuse_no_hand" (fun _ _ _ _ _ _ _ _ _ => by rfl) self) (e_old 0).ofOld (ea_cons (e_var 1) ea_nil)) ?_
  refine b_ret (ρ := Val (heardOf self.day hand)) (e_if (k := !self.day.isSome) (et_isNd (e_fldO (h_isDay T self) (e_old 0)).ofOld) (fun h => ?_) fun h => ?_) (Same.refl _)
  · cases hd : self.day with
    | none =>
      exact e_tup0
    | some d => rw [hd] at h; cases h
  · cases hd : self.day with
    | none => rw [hd] at h; cases h
    | some d =>
      have e1 : atI (d.heard.map Lst.mk) hand = some (Lst.mk ((atI d.heard hand).getD [])) := by
        rw [atI_map, some_getD (d := []) (h2 d hd)]
        rfl
      exact e_tupL T.m_tuple (e_ixL e1 (e_fldO (d_heard T ⟨d⟩) (e_fldO (h_day T self hd) (e_old 0))).ofOld (e_var 1))
def weightsOf (p many place : Int) : List Int := if decide (place < many) = true then (rng 0 many.toNat).map fun other => if decide (other = place) = true then (1 : Int) else 0 else placeWeights p many place
theorem ok_House_weights_of (T : Tx K mg) : CalM P w K mg base 4 (He.ga K "House") "weights_of" ["self", "many", "place"] (spG (fun i : ((Hou K)) × Int × Int => (.cons i.1 (.cons i.2.1 (.cons i.2.2 .nil)))) (fun i => (fun (self : (Hou K)) (many : Int) (place : Int) => smallP self.p ∧ 0 ≤ many ∧ many < 1000) i.1 i.2.1 i.2.2) fun i => (fun (self : (Hou K)) (many : Int) (place : Int) => Val (weightsOf self.p many place)) i.1 i.2.1 i.2.2) := by
  obtain ⟨fd, F⟩ := T.f_House_weights_of
  refine calM_of F T.e_House_weights_of T.c_House (fn_ok (fun i => [.old (i.1), .im (i.2.1), .im (i.2.2)]) 1 F sc_House_weights_of (fun i => (ent_old (ent_im (ent_im ent_nil)))) (fun _ => rfl) (fun _ => rfl) fun cdv A outer s H Ex i hr hp => ?_) (fun _ _ _ _ _ _ us hl => match us, hl with | [_, _, _], _ => rfl)
  obtain ⟨self, many, place⟩ := i
  have hp : smallP self.p ∧ 0 ≤ many ∧ many < 1000 := hp
  obtain ⟨h1, h2, h3⟩ := hp
  refine b_ifR (et_lt (e_var 2) (e_var 1)) (fun h => ?_) fun h => ?_
  · refine b_retV (e_tupL T.m_tuple (E.val (e_lc (ff := fun other : Int => if decide (other = place) = true then (1 : Int) else 0) [("other", 3)] sc_House_weights_of.nd (ei_rng1 T.m_range (e_var 1) (by show -(2 ^ 62) ≤ many ∧ many < 2 ^ 62; omega)) (by rw [rng_len]; show many.toNat < _; omega) (fun s H C cl fp => tgt_name 3 sc_House_weights_of.nd) (fun s H C cl fp H0' hs x hx => E.fresh (e_intB T.m_int (e_eq (e_var 3) (e_var 2))))))) (Same.refl _) (show _ = weightsOf self.p many place from ?_)
    unfold weightsOf
    rw [if_pos h]
  · refine b_retV (e_call (ok_place_weights T) hr (self.p, many, place) ⟨h1, h2, h3⟩ (ea_cons (e_fldO (h_p T self) (e_old 0)).ofOld (ea_cons (e_var 1) (ea_cons (e_var 2) ea_nil)))) (Same.refl _) (show _ = weightsOf self.p many place from ?_)
    unfold weightsOf
    rw [if_neg (by rw [h]; decide)]
end
end Lk

/-! LkH2 -/
set_option Elab.async false
set_option linter.all false
set_option maxRecDepth 100000
set_option maxHeartbeats 4000000
set_option autoImplicit false
/-! House.pieces, House.knows -/
namespace Lk
open PySem PySem.Spec PyProof.Rows L2
open Ty (r)
section
variable {X : Cx} {H0 He Hc : Hp} {G G' : List Slot} {e a b c o tg i : Expr} {es : List Expr} {pos p p1 p2 apos cpos : Pos} {D : Ends} {st : Stmt} {rest body els : List Stmt}
theorem At.reslot {H : Hp} {σ : L2.St} {i : Nat} {s s' : Slot} {v : V} (h : At H0 G σ H) (hG : G[i]? = some s) (hv : σ[i]? = some (some v)) (hs : s'.ok H0 v H) (ho : ¬ s'.isOwn) : At H0 (G.set i s') σ H := by
  have hl := (List.getElem?_eq_some_iff.mp hv).1
  have e : σ.set i (some v) = σ := by
    apply List.ext_getElem?
    intro j
    rw [List.getElem?_set]
    by_cases hj : i = j
    · subst hj; rw [if_pos rfl, if_pos hl, hv]
    · rw [if_neg hj]
  have := h.set (j := i) (s := s') hs ho
  rwa [e] at this
/-- a thing of the base is known by its address from here on -/
theorem b_adr (i : Nat) {α : Type} [Ty α] {x : α} (hr : ∀ v H, r x v H → ∃ q, v = .ref q) (h : ∀ q, r x (.ref q) H0 → B X H0 (G.set i (.im (Adr.mk q))) rest D) (hG : G[i]? = some (.old x) := by rfl) : B X H0 G rest D := fun σ H h0 => by
  obtain ⟨v, e1, q1⟩ := h0.get hG (by intro z; cases z)
  have q1 : r x v H0 := q1
  obtain ⟨q, rfl⟩ := hr v H0 q1
  exact h q q1 σ H (h0.reslot (s' := .im (Adr.mk q)) hG e1 rfl fun z => z)
/-- for k, v in d.items(), d a dict of the base -/
theorem b_items {α : Type} [Im α] {l : List (Int × α)} {Fd : Addr} {kvs : List (Key × V)} {elts : List Expr} {kk : Nat} {tpos : Pos} {js : List Nat} {up : Int × α → List Slot → List Slot} (Gs : Nat → List Slot) (Gd : List Slot) (hF : H0 Fd = some (.dK kvs)) (hk : KVs l kvs H0) (hc : ∀ ob, Chg H0 (upd H0 Fd (.frz ob (.dK kvs))) G (Gs 0))
    (he : ∀ ob, E X (upd H0 Fd (.frz ob (.dK kvs))) (Gs 0) e (Val (Adr.mk Fd))) (ht : Tgt X (.Tuple elts kk tpos) js up)
    (hs : ∀ ob Hb, Same (upd H0 Fd (.frz ob (.dK kvs))) Hb → ∀ i x, l[i]? = some x → ∀ rt bk, B X Hb (up x (Gs i)) body ⟨AtU Hb (Gs (i + 1)), rt, bk, AtU Hb (Gs (i + 1))⟩)
    (hcd : ∀ Hb, Chg Hb (upd Hb Fd (.dK kvs)) (Gs l.length) Gd) (hd : ∀ Hb, Same H0 Hb → B X Hb Gd rest D) (hp : PassesOwn (model X.prog X.w) X.A X.env X.xe) (hcl : X.calm = true := by rfl)
    (hbase : attributeBase e "items" X.env (eval e X.env) = eval e X.env := by rfl) (hline : (apos.endLine == cpos.line) = true := by rfl) (hf : ∀ y, foldedSetIterable (.Call (.Attribute e "items" apos) [] [] cpos) X.env y = pure y := by intro _; rfl) :
    B X H0 G (.For (.Tuple elts kk tpos) (.Call (.Attribute e "items" apos) [] [] cpos) body [] pos :: rest) D := B.seq fun σ H h0 => by
  refine ps_out (ps_lock (ps_for hp hcl (pi_items pe_in hbase hline) pg_in pss_in hf)) ⟨Fd, .dK kvs, h0.same _ _ hF, trivial, fun od => ?_⟩
  have a1 := h0.upd0 (o' := .frz od (.dK kvs)) hF (fun _ z => nomatch z) (hc od)
  refine he od σ _ _ a1 fun v H1 s1 p1 => ?_
  have p1 : v = .ref Fd := p1
  subst p1
  have hB : upd H0 Fd (.frz od (.dK kvs)) Fd = some (.frz od (.dK kvs)) := upd_same
  have nt : ∀ {b : Addr} {xs : List V}, H0 b = some (.tup xs) → b ≠ Fd := fun {b xs} z w => by subst w; rw [hF] at z; cases z
  refine ⟨Fd, od, kvs, rfl, (a1.ext s1).same _ _ hB, ?_⟩
  have kt : KeepT H0 (upd H0 Fd (.frz od (.dK kvs))) := fun b xs z => by rw [upd_ne (nt z)]; exact z
  refine for_it (walk_items (d := Fd) (o := od) (kvs := kvs)) (fun i σ' H' => AtU (upd H0 Fd (.frz od (.dK kvs))) (Gs i) σ' H') ⟨_, Same.refl _, a1.ext s1⟩ (fun i σ' H' _ ⟨Hb, sb, q⟩ => q.same _ _ (sb _ _ hB)) (fun i v σ' H' H2 hil ⟨Hb, sb, q⟩ y => ?_) fun σ' H' z => ?_
  · obtain ⟨T, x1, x2, e1, e2, e3, e4, e5⟩ := y
    subst e1 e3
    have e4 : (kvs[i]?.map fun kv => kV kv.1) = some x1 := e4
    have e5 : (kvs[i]?.map Prod.snd) = some x2 := e5
    cases hkv : kvs[i]? with
    | none => rw [hkv] at e4; cases e4
    | some kv =>
      rw [hkv] at e4 e5
      have e4 : some (kV kv.1) = some x1 := e4
      have e5 : some kv.2 = some x2 := e5
      cases e4
      cases e5
      obtain ⟨x, g1, g2, g3⟩ := Paired.get2 hk hkv
      have q' := q.ext (Same.new (o := .tup [kV kv.1, kv.2]) e2)
      refine ht x (.ref T) σ' _ _ _ _ ⟨T, kV kv.1, kv.2, rfl, upd_same, by rw [g2]; rfl, Im.keep (KeepT.trans kt (keepT (Same.trans sb q'.same))) g3⟩ q' fun σ2 q2 _ => ?_
      exact tB_mono (hs od Hb sb i x g1 _ _ σ2 _ q2) (fun _ _ z => z.up sb) (fun _ _ z => z) (fun _ _ z => z) fun _ _ z => z.up sb
  · rw [← Paired.length hk] at z
    obtain ⟨Hb, sb, q⟩ := z
    have hb := sb _ _ hB
    refine ⟨q.same _ _ hb, hd (upd Hb Fd (.dK kvs)) (fun b u z => ?_) σ' _ (q.upd0 hb (fun _ z => nomatch z) (hcd Hb))⟩
    by_cases hbF : b = Fd
    · subst hbF; rw [hF] at z; rw [upd_same]; exact z
    · rw [upd_ne hbF]
      refine sb b u ?_
      rw [upd_ne hbF]; exact z
end
section
variable {P : Program} {w : World} {K : PySem.W.Frag} {mg : Str → Option Value} {base : Heap}
theorem hou_q (h : Hou K) : ∀ v H, r h v H → ∃ q, v = .ref q := fun v H ⟨q, e, _⟩ => ⟨q, e⟩
theorem day_q (h : DayR K) : ∀ v H, r h v H → ∃ q, v = .ref q := fun v H ⟨q, _, _, _, _, _, e, _⟩ => ⟨q, e⟩
theorem ok_shelf_shelves (T : Tx K mg) : Cal P w K mg base 4 "shelf_shelves" ["hands", "t", "hand", "file"] (spG (fun i : Int × Int × Int × ((List Int)) => (.cons i.1 (.cons i.2.1 (.cons i.2.2.1 (.cons i.2.2.2 .nil))))) (fun i => (fun (hands : Int) (t : Int) (hand : Int) (file : (List Int)) => file.length < 1000 ∧ ∀ e ∈ enm file, lotAtOk hands t e.1 = true) i.1 i.2.1 i.2.2.1 i.2.2.2) fun i => (fun (hands : Int) (t : Int) (hand : Int) (file : (List Int)) => Val (shelfI hands t hand file)) i.1 i.2.1 i.2.2.1 i.2.2.2) := by
  obtain ⟨fd, F⟩ := T.f_shelf_shelves
  refine cal_of F T.g_shelf_shelves (fn_ok (fun i => [.im (i.1), .im (i.2.1), .im (i.2.2.1), .im (i.2.2.2)]) 2 F sc_shelf (fun i => (ent_im (ent_im (ent_im (ent_im ent_nil))))) (fun _ => rfl) (fun _ => rfl) fun cdv A outer s H Ex i hr hp => ?_) (fun _ _ _ _ _ _ us hl => match us, hl with | [_, _, _, _], _ => rfl)
  obtain ⟨hands, t, hand, file⟩ := i
  have hp : file.length < 1000 ∧ ∀ e ∈ enm file, lotAtOk hands t e.1 = true := hp
  obtain ⟨h1, h2⟩ := hp
  refine b_ret (e_tupL T.m_tuple (E.val (e_lc (ff := fun e : Int × Int => if hasI hands t hand e.1 = true then some e.2 else none) [("at", 4), ("number", 5)] sc_shelf.nd (ei_enumT T.m_enumerate (e_var 3)) (by rw [enm_len]; show file.length < _; omega) (fun s H C cl fp => tgt_2 4 5 rfl sc_shelf.nd) (fun s H C cl fp H0' hs x hx => E.fresh (e_ite (et_val (e_call (ok_has T) hr (hands, t, hand, x.1) (h2 x hx) (ea_cons (e_var 0) (ea_cons (e_var 1) (ea_cons (e_var 2) (ea_cons (e_var 4) ea_nil)))))) (fun _ => E.toSome (e_var 5)) fun _ => e_non))))) (Same.refl _)
def pcF (p many : Int) (f : List (List Int × Int)) (e : Int × Option Int) : List (List Int × Int) := match e.2 with
  | none => f
  | some u => f ++ [(weightsOf p many e.1, u)]
def rowsOf (p many : Int) (heard : List (Option Int)) : List (List Int × Int) := (enm heard).foldl (pcF p many) []
theorem pcF_len {p many : Int} : ∀ (l : List (Int × Option Int)) (f : List (List Int × Int)), (l.foldl (pcF p many) f).length ≤ f.length + l.length
  | [], f => by simp
  | x :: l, f => by
    have h := pcF_len (p := p) (many := many) l (pcF p many f x)
    have : (pcF p many f x).length ≤ f.length + 1 := by
      unfold pcF
      cases x.2 with
      | none => show f.length ≤ _; omega
      | some u => show (f ++ [_]).length ≤ _; rw [List.length_append]; exact Nat.le_refl _
    show (l.foldl (pcF p many) (pcF p many f x)).length ≤ f.length + (l.length + 1)
    omega
def hadOf (hands t hand : Int) (files : List (Int × List Int)) : List (Int × List (Option Int)) := files.foldl (fun a e => dput a e.1 (shelfI hands t hand e.2)) []
theorem had_len {hands t hand : Int} : ∀ (l : List (Int × List Int)) (a : List (Int × List (Option Int))), (l.foldl (fun a e => dput a e.1 (shelfI hands t hand e.2)) a).length ≤ a.length + l.length
  | [], a => by simp
  | x :: l, a => by
    have h := had_len (hands := hands) (t := t) (hand := hand) l (dput a x.1 (shelfI hands t hand x.2))
    have := dput_len (l := a) (i := x.1) (u := shelfI hands t hand x.2)
    show (l.foldl _ (dput a x.1 (shelfI hands t hand x.2))).length ≤ a.length + (l.length + 1)
    omega
def piecesI (K : PySem.W.Frag) (hands t p : Int) (day : Option DayS) (hand : Int) : Option (List (Option Int)) := match day with
  | none => none
  | some d => if (wishOf d.wishes hand).isNone = true then none else some (knownBy K p t d.wishes hand (hadOf hands t hand d.files) (rowsOf p (madeI t d.wishes) ((atI d.heard hand).getD [])))
def noWish (day : Option DayS) (hand : Int) : Bool := match day with
  | none => true
  | some d => (wishOf d.wishes hand).isNone
structure PcOk (K : PySem.W.Frag) (hands t p : Int) (d : DayS) (hand : Int) : Prop where
  wi : (atI d.wishes hand).isSome = true
  mo : wishOf d.wishes hand ≠ none → madeOk t d.wishes ∧ (0 ≤ madeI t d.wishes ∧ madeI t d.wishes < 1000)
  hd : wishOf d.wishes hand ≠ none → (atI d.heard hand).isSome = true ∧ ((atI d.heard hand).getD []).length < 900
  p0 : smallP p
  fl : d.files.length < 1000
  fs : ∀ e ∈ d.files, e.2.length < 1000 ∧ ∀ x ∈ enm e.2, lotAtOk hands t x.1 = true
  kb : wishOf d.wishes hand ≠ none → KbOk p t d.wishes hand (hadOf hands t hand d.files) (rowsOf p (madeI t d.wishes) ((atI d.heard hand).getD []))
theorem ok_House_pieces (T : Tx K mg) : CalM P w K mg base 8 (He.ga K "House") "pieces" ["self", "hand"] (spG (fun i : ((Hou K)) × Int => (.cons i.1 (.cons i.2 .nil))) (fun i => (fun (self : (Hou K)) (hand : Int) => (0 ≤ hand ∧ hand < self.hands) ∧ ∀ d, self.day = some d → PcOk K self.hands self.t self.p d hand) i.1 i.2) fun i => (fun (self : (Hou K)) (hand : Int) => Val (piecesI K self.hands self.t self.p self.day hand)) i.1 i.2) := by
  obtain ⟨fd, F⟩ := T.f_House_pieces
  refine calM_of F T.e_House_pieces T.c_House (fn_ok (fun i => [.old (i.1), .im (i.2)]) 7 F sc_House_pieces (fun i => (ent_old (ent_im ent_nil))) (fun _ => rfl) (fun _ => rfl) fun cdv A outer s H Ex i hr hp => ?_) (fun _ _ _ _ _ _ us hl => match us, hl with | [_, _], _ => rfl)
  obtain ⟨self, hand⟩ := i
  have hp : (0 ≤ hand ∧ hand < self.hands) ∧ ∀ d, self.day = some d → PcOk K self.hands self.t self.p d hand := hp
  obtain ⟨h1, h2⟩ := hp
  refine b_drop (e_meth (ok_House_refuse_no_hand T) hr (self, hand) h1 (hou_no "refuse_no_hand" (fun _ _ _ _ _ _ _ _ _ => by rfl) self) (e_old 0).ofOld (ea_cons (e_var 1) ea_nil)) ?_
  refine b_ifR (k := !self.day.isSome || noWish self.day hand) (et_w (ew_or (et_isNd (e_fldO (h_isDay T self) (e_old 0)).ofOld) fun h => ew_or1 ?_)) (fun h => ?_) fun h => ?_
  · obtain ⟨d, hd⟩ : ∃ d, self.day = some d := by
      cases hd : self.day with
      | none => rw [hd] at h; cases h
      | some d => exact ⟨d, rfl⟩
    have e : noWish self.day hand = (wishOf d.wishes hand).isNone := by rw [hd]; rfl
    rw [e]
    exact et_isN (e_ixT (some_getD (h2 d hd).wi) (e_fldO (d_wishes T ⟨d⟩) (e_fldO (h_day T self hd) (e_old 0))).ofOld (e_var 1))
  · refine b_retV (e_non (α := List (Option Int))) (Same.refl _) (show none = piecesI K self.hands self.t self.p self.day hand from ?_)
    cases hd : self.day with
    | none => rfl
    | some d =>
      rw [hd] at h
      have h : (wishOf d.wishes hand).isNone = true := h
      show none = if (wishOf d.wishes hand).isNone = true then none else _
      rw [if_pos h]
  obtain ⟨d, hd, hw⟩ : ∃ d, self.day = some d ∧ (wishOf d.wishes hand).isNone = false := by
    cases hd : self.day with
    | none => rw [hd] at h; cases h
    | some d => rw [hd] at h; exact ⟨d, rfl, h⟩
  have hw' : wishOf d.wishes hand ≠ none := fun z => by rw [z] at hw; cases hw
  have ok := h2 d hd
  obtain ⟨m1, m2⟩ := ok.mo hw'
  obtain ⟨m3, m4⟩ := ok.hd hw'
  have kb := ok.kb hw'
  obtain ⟨row, erow⟩ : ∃ row, (atI d.heard hand).getD [] = row := ⟨_, rfl⟩
  have e1 : atI (d.heard.map Lst.mk) hand = some (Lst.mk row) := by
    rw [atI_map, some_getD (d := []) m3, erow]
    rfl
  rw [erow] at m4 kb
  refine b_setOld 2 (e_fldO (h_day T self hd) (e_old 0)) ?_ sc_House_pieces.nd
  refine b_set 3 (e_call (ok_made T) hr (self.t, d.wishes) m1 (ea_cons (e_fldO (h_t T self) (e_old 0)).ofOld (ea_cons (e_fldO (d_wishes T ⟨d⟩) (e_old 2)).ofOld ea_nil))) ?_ sc_House_pieces.nd
  refine b_setOwn 4 (e_lst0 (α := List Int × Int)) ?_ sc_House_pieces.nd
  refine b_forF (fun f : List (List Int × Int) => [.old self, .im hand, .old (DayR.mk (K := K) d), .im (madeI self.t d.wishes), .own f, .no, .no, .no, .no]) (pcF self.p (madeI self.t d.wishes)) [] (ei_enumL T.m_enumerate (e_ixO e1 (e_fldO (d_heard T ⟨d⟩) (e_old 2)) (e_var 1))) (tgt_2 5 6 rfl sc_House_pieces.nd) (Sub.of []) (fun H0' hs i x f e ef => ?_) (fun H1 hs1 => ?_) nox_own
  · have fl : f.length < 1000000 := by
      rw [ef]
      have h1 := pcF_len (p := self.p) (many := madeI self.t d.wishes) ((enm row).take i) []
      have h2 : ((enm row).take i).length ≤ (enm row).length := by rw [List.length_take]; omega
      rw [enm_len] at h2
      rw [List.length_nil] at h1
      omega
    obtain ⟨x1, x2⟩ := x
    refine b_if (et_notN (o := x2) (e_var 6)) (fun h => ?_) fun h => ?_
    · cases x2 with
      | none => cases h
      | some u =>
        exact b_app 4 (e_tup2 (e_meth (ok_House_weights_of T) hr (self, madeI self.t d.wishes, x1) ⟨ok.p0, m2.1, m2.2⟩ (hou_no "weights_of" (fun _ _ _ _ _ _ _ _ _ => by rfl) self) (e_old 0).ofOld (ea_cons (e_var 3) (ea_cons (e_var 5) ea_nil))) (E.some (e_var 6))) (b_go (b_e [5, 6] (Same.refl _))) fl
    · cases x2 with
      | some u => cases h
      | none => exact b_go (b_e [5, 6] (Same.refl _))
  -- had
  have erows : (enm row).foldl (pcF self.p (madeI self.t d.wishes)) [] = rowsOf self.p (madeI self.t d.wishes) row := rfl
  rw [erows]
  refine b_setOwnK 7 (e_dic0 (α := List (Option Int))) ?_ sc_House_pieces.nd
  refine b_adr (x := self) 0 (hou_q self) (fun pa ra => ?_)
  refine b_adr (x := DayR.mk (K := K) d) 2 (day_q _) (fun qa rq => ?_)
  obtain ⟨pa', epa, dx, F, A, vd, vc, HF⟩ := ra
  cases epa
  obtain ⟨qa', dxd, Fd, Hd, vw, ro, eqa, DF⟩ := rq
  cases eqa
  obtain ⟨kvs, hF, hK⟩ := DF.fil
  refine b_items (l := d.files) (fun i => [.im (Adr.mk pa), .im hand, .im (Adr.mk qa), .no, .own (rowsOf self.p (madeI self.t d.wishes) row), .no, .no, .ownK ((d.files.take i).foldl (fun a e => dput a e.1 (shelfI self.hands self.t hand e.2)) []), .no]) [.im (Adr.mk pa), .im hand, .im (Adr.mk qa), .no, .own (rowsOf self.p (madeI self.t d.wishes) row), .no, .no, .ownK (hadOf self.hands self.t hand d.files), .no] hF hK (fun ob => .im _ (.im _ (.im _ (.drop _ (.own _ (.drop _ (.drop _ (.ownK _ (.drop _ .nil))))))))) (fun ob => ?_) (tgt_2 6 8 rfl sc_House_pieces.nd) (fun ob Hb sb i x e rt bk => ?_) (fun Hb => ?_) (fun Hb sb => ?_) nox_own
  · exact e_fldA (q := Fd) (by rw [upd_ne (ne_of DF.ins hF (fun z => nomatch z))]; exact DF.ins) T.c_Day T.a_Day_day_files df_files (e_var 2)
  · have hi : Hb pa = some _ := sb _ _ (by rw [upd_ne (ne_of HF.ins hF (fun z => nomatch z))]; exact HF.ins)
    have hx := List.mem_of_getElem? e
    obtain ⟨f1, f2⟩ := ok.fs x hx
    have tk : d.files.take (i + 1) = d.files.take i ++ [x] := by rw [List.take_succ, e]; rfl
    rw [tk, List.foldl_append]
    refine b_putK hr 7 (x := x.1) (u := shelfI self.hands self.t hand x.2) (l := (d.files.take i).foldl (fun a e => dput a e.1 (shelfI self.hands self.t hand e.2)) []) ?_ (e_var 6) (b_e [6, 8] (Same.refl _)) ?_
    · refine e_call (ok_shelf_shelves T) hr (self.hands, self.t, hand, x.2) ⟨f1, f2⟩ (ea_cons ?_ (ea_cons ?_ (ea_cons (e_var 1) (ea_cons (e_var 8) ea_nil))))
      · exact (e_fldB hi T.c_House T.a_House_house_hands hf_hands (u := self.hands) rfl (e_var 0)).ofOld
      · exact (e_fldB hi T.c_House T.a_House_house_t hf_t (u := self.t) rfl (e_var 0)).ofOld
    have h1 := had_len (hands := self.hands) (t := self.t) (hand := hand) (d.files.take i) []
    have h2 : (d.files.take i).length ≤ d.files.length := by rw [List.length_take]; omega
    have h3 := ok.fl
    rw [List.length_nil] at h1
    omega
  · rw [List.take_length]
    exact .im _ (.im _ (.im _ (.drop _ (.own _ (.drop _ (.drop _ (.ownK _ (.drop _ .nil))))))))
  · have hi := sb _ _ HF.ins
    have hq := sb _ _ DF.ins
    refine b_keep 4 fun H5 s5 => ?_
    have hi := s5 _ _ hi
    have hq := s5 _ _ hq
    refine b_retV (E.toSome (e_call (ok_known_by T) hr (self.p, self.t, d.wishes, hand, ⟨hadOf self.hands self.t hand d.files⟩, ⟨rowsOf self.p (madeI self.t d.wishes) row⟩) kb (ea_cons (E.ofOld (e_fldB hi T.c_House T.a_House_house_p hf_p (u := self.p) rfl (e_var 0))) (ea_cons (E.ofOld (e_fldB hi T.c_House T.a_House_house_t hf_t (u := self.t) rfl (e_var 0))) (ea_cons (e_fldB hq T.c_Day T.a_Day_day_wishes df_wishes (u := d.wishes) (Ty.mono (Same.trans sb s5) DF.wis) (e_var 2)).ofOld (ea_cons (e_var 1) (ea_cons (e_ownK 7) (ea_cons (e_old 4).ofOld ea_nil)))))))) (Same.trans hs1 (Same.trans sb s5)) (show _ = piecesI K self.hands self.t self.p self.day hand from ?_)
    rw [hd]
    show _ = if (wishOf d.wishes hand).isNone = true then none else some (knownBy K self.p self.t d.wishes hand (hadOf self.hands self.t hand d.files) (rowsOf self.p (madeI self.t d.wishes) ((atI d.heard hand).getD [])))
    rw [if_neg (by rw [hw]; decide), erow]
    rfl
end
end Lk

/-! LkH3 -/
set_option Elab.async false
set_option linter.all false
set_option maxRecDepth 100000
set_option maxHeartbeats 4000000
set_option autoImplicit false
/-! House: knows; what changes a house. -/
namespace Lk
open PySem PySem.Spec PyProof.Rows L2
open Ty (r)
section
variable {X : Cx} {H0 He Hc : Hp} {G G' : List Slot} {e a b c o tg i : Expr} {es : List Expr} {pos p p1 p2 apos cpos : Pos} {D : Ends} {st : Stmt} {rest body els : List Stmt}
theorem inV_none {l : List (Option Int)} : inV .non (l.map vO) = l.any fun o => o.isNone := by
  unfold inV
  induction l with
  | nil => rfl
  | cons z l ih =>
    rw [List.map_cons, List.any_cons, List.any_cons, ih]
    cases z <;> rfl
theorem flat_opts {l : List (Option Int)} : (l.map vO).all flatV = true := by
  induction l with
  | nil => rfl
  | cons z l ih =>
    rw [List.map_cons, List.all_cons, ih]
    cases z <;> rfl
theorem e_niNone {l : List (Option Int)} {j : Nat} (hb : E X H0 G b (Val l)) (hm : behindInMarks .NotIn b = false := by rfl) : E X H0 G (.Compare (.Constant .none j p) [.NotIn] [b] pos) (Val (!l.any fun o => o.isNone)) := e_cmp (x := (none : Option Int)) (y := l) op_notIn_seq (fun v w H Q h1 ⟨q, xs, b1, b2, b3⟩ k => by
  have h1 : v = .non := h1
  have h3 := A2.opts b3
  subst h1 h3
  exact ⟨q, _, b1, .inr (.inl (.inl b2)), rfl, flat_opts, k _ H (Same.refl H) (by show V.bl (if true = true then _ else _) = _; rw [if_pos rfl, inV_none])⟩) e_non hb hm
/-- a.f += e -/
theorem b_fldaug {f : Str} {pa dx C : Addr} {fs : List (Str × V)} {x y : Int} (hx : H0 pa = some (.ins C dx fs)) (hc : Cls X.K C) (hn : NoAttr X.K C f) (hl : fs.length < 1000) (hv : fs.lookup f = some (V.int x)) (ha : E X H0 G a (Val (Adr.mk pa))) (he : E X H0 G e (Val y)) (hch : Chg H0 (upd H0 pa (.ins C dx (putF f (.int (x + y)) fs))) G G')
    (hr : B X (upd H0 pa (.ins C dx (putF f (.int (x + y)) fs))) G' rest D) : B X H0 G (.AugAssign (.Attribute a f p) .Add e pos :: rest) D := B.seq fun σ H h0 => ps_out (ps_fldaug pe_in pe_in in_add) (ha σ H _ h0 fun v H1 s1 p1 => by
  have p1 : v = .ref pa := p1
  subst p1
  refine ⟨pa, C, dx, fs, _, rfl, (h0.ext s1).same _ _ hx, hc, hn, hv, he σ H1 _ (h0.ext s1) fun w H2 s2 p2 => ?_⟩
  have p2 : w = .int y := p2
  subst p2
  have a2 := (h0.ext s1).ext s2
  exact ⟨x, y, rfl, rfl, dx, fs, a2.same _ _ hx, hl, hr σ _ (a2.upd0 hx (fun _ z => nomatch z) hch)⟩)
/-- del d[i], a dict of the base -/
theorem b_ddel {q : Addr} {kvs : List (Key × V)} {x : Int} (hx : H0 q = some (.dK kvs)) (hk : (valV kvs (.inl x)).isSome = true) (ho : E X H0 G o (Val (Adr.mk q))) (hi : E X H0 G i (Val x)) (hch : Chg H0 (upd H0 q (.dK (dropK kvs (.inl x)))) G G') (hr : B X (upd H0 q (.dK (dropK kvs (.inl x)))) G' rest D) :
    B X H0 G (.Delete [.Subscript o i p] pos :: rest) D := B.seq fun σ H h0 => ps_out (ps_ddel pe_in pe_in) (ho σ H _ h0 fun w H2 s2 p2 => hi σ H2 _ (h0.ext s2) fun z H3 s3 p3 => by
  have a3 := (h0.ext s2).ext s3
  have p2 : w = .ref q := p2
  have p3 : z = .int x := p3
  subst p2 p3
  exact ⟨q, kvs, .inl x, rfl, a3.same _ _ hx, rfl, hk, hr σ _ (a3.upd0 hx (fun _ z => nomatch z) hch)⟩)
def ddrop {α : Type} (l : List (Int × α)) (i : Int) : List (Int × α) := l.filter fun e => !decide (e.1 = i)
theorem KVs.drop {α : Type} [Ty α] {H : Hp} {i : Int} : ∀ {l : List (Int × α)} {kvs : List (Key × V)}, KVs l kvs H → KVs (ddrop l i) (dropK kvs (.inl i)) H
  | [], _, .nil => .nil
  | (j, u) :: l, (kk, v) :: kvs, .cons ⟨h1, h2⟩ t => by
    have h1 : kk = .inl j := h1
    subst h1
    have ih := KVs.drop (i := i) t
    unfold ddrop dropK at ih ⊢
    rw [List.filter_cons, List.filter_cons]
    by_cases hj : j = i
    · subst hj
      rw [if_neg (by simp), if_neg (by simp)]
      exact ih
    · rw [if_pos (by simp [hj]), if_pos (by simp; exact hj)]
      exact .cons ⟨rfl, h2⟩ ih
end
section
variable {P : Program} {w : World} {K : PySem.W.Frag} {mg : Str → Option Value} {base : Heap}
def knowsI (o : Option (List (Option Int))) : Bool := match o with
  | none => false
  | some l => !l.any fun z => z.isNone
theorem ok_House_knows (T : Tx K mg) : CalM P w K mg base 9 (He.ga K "House") "knows" ["self", "hand"] (spG (fun i : ((Hou K)) × Int => (.cons i.1 (.cons i.2 .nil))) (fun i => (fun (self : (Hou K)) (hand : Int) => (0 ≤ hand ∧ hand < self.hands) ∧ ∀ d, self.day = some d → PcOk K self.hands self.t self.p d hand) i.1 i.2) fun i => (fun (self : (Hou K)) (hand : Int) => Val (knowsI (piecesI K self.hands self.t self.p self.day hand))) i.1 i.2) := by
  obtain ⟨fd, F⟩ := T.f_House_knows
  refine calM_of F T.e_House_knows T.c_House (fn_ok (fun i => [.old (i.1), .im (i.2)]) 1 F sc_House_knows (fun i => (ent_old (ent_im ent_nil))) (fun _ => rfl) (fun _ => rfl) fun cdv A outer s H Ex i hr hp => ?_) (fun _ _ _ _ _ _ us hl => match us, hl with | [_, _], _ => rfl)
  obtain ⟨self, hand⟩ := i
  have hp : (0 ≤ hand ∧ hand < self.hands) ∧ ∀ d, self.day = some d → PcOk K self.hands self.t self.p d hand := hp
  refine b_set 2 (e_meth (ok_House_pieces T) hr (self, hand) hp (hou_no "pieces" (fun _ _ _ _ _ _ _ _ _ => by rfl) self) (e_old 0).ofOld (ea_cons (e_var 1) ea_nil)) ?_ sc_House_knows.nd
  obtain ⟨o, eo⟩ : ∃ o, piecesI K self.hands self.t self.p self.day hand = o := ⟨_, rfl⟩
  have go : B (cxOf CX0 P w K mg base N_House_knows "House.knows" (defScope s_House_knows) (He.fAd K ("House", some "knows")) cdv A outer s H Ex).nox H [.old self, .im hand, .im o] (defBody s_House_knows |>.drop 1) (endsOf (Val (knowsI o)) H) := by
    cases o with
    | none => exact b_retV (e_and (k := false) (l := true) (e_notN (o := (none : Option (List (Option Int)))) (e_var 2)) fun h => by cases h) (Same.refl _) rfl
    | some l => exact b_retV (e_and (k := true) (e_notN (o := some l) (e_var 2)) fun h => e_one (e_niNone (E.some (e_var 2)))) (Same.refl _) rfl
  rw [← eo] at go
  exact go
end
end Lk

/-! LkH4 -/
set_option Elab.async false
set_option linter.all false
set_option maxRecDepth 100000
set_option maxHeartbeats 4000000
set_option autoImplicit false
/-! House: bring, drop, away, home, night. -/
namespace Lk
open PySem PySem.Spec PyProof.Rows L2
open Ty (r)
/-! ### one of a house's things is written -/
section
variable {K : PySem.W.Frag} {h : Hou K} {d : DayS} {p q dx dx' F A Fd Hd x : Addr} {vd vc vw : V} {ro : List RowO} {C : Hp} {o u : HO}
theorem kt_upd {q : Addr} (hq : C q = some u) (nt : ∀ xs, u ≠ .tup xs) : KeepT C (upd C q o) := fun b xs e => by
  have ne : b ≠ q := fun z => by subst z; rw [hq] at e; exact nt xs (Option.some.inj e)
  rw [upd_ne ne]; exact e
theorem DayF.keep (y : DayF K d q dx Fd Hd vw ro C) (hx : C x = some u) (nt : ∀ xs, u ≠ .tup xs) (h1 : q ≠ x) (h2 : Fd ≠ x) (h3 : Hd ≠ x) (h4 : ∀ z ∈ ro, z.a ≠ x) : DayF K d q dx Fd Hd vw ro (upd C x o) :=
  ⟨by rw [upd_ne h1]; exact y.ins, Im.keep (kt_upd hx nt) y.wis, let ⟨k, e1, e2⟩ := y.fil; ⟨k, by rw [upd_ne h2]; exact e1, e2.keep (kt_upd hx nt)⟩, by rw [upd_ne h3]; exact y.lst, fun z hz => by
    show upd C x o z.a = _
    rw [upd_ne (h4 z hz)]
    exact y.rows z hz, y.eq, y.nd⟩
theorem houFs_ne {hands t p next sp : Int} {vf va vd vc vw vf' vh : V} {bd : Bool} {C1 C2 dx dx' : Addr} : HO.ins C1 dx (dayFs vw sp vf' vh) ≠ HO.ins C2 dx' (houFs hands t p next vf va bd vd vc) := fun z => by
  injection z with _ _ z
  have := congrArg List.length z
  simp [dayFs, houFs] at this
theorem DayV.keepK (y : DayV K h.day F A vd C) {kvs : List (Key × V)} (hx : C x = some (.dK kvs)) (hxF : x = F ∨ x = A) : DayV K h.day F A vd (upd C x o) := by
  cases hd : h.day with
  | none => rw [hd] at y; exact y
  | some d =>
    rw [hd] at y
    obtain ⟨q, dx, Fd, Hd, vw, ro, e, n1, n2, y⟩ := y
    refine ⟨q, dx, Fd, Hd, vw, ro, e, n1, n2, y.keep hx (fun _ z => nomatch z) (ne_of y.ins hx (fun z => nomatch z)) ?_ (ne_of y.lst hx (fun z => nomatch z)) fun z hz => ne_of (y.rows z hz) hx (fun z => nomatch z)⟩
    rcases hxF with rfl | rfl
    · exact n1
    · exact n2
theorem HouF.setFil (y : HouF K h p dx F A vd vc C) {kvs kvs' : List (Key × V)} (hx : C F = some (.dK kvs)) {fl : List (Int × List Int)} (hk : KVs fl kvs' C) : HouF K { h with files := fl } p dx F A vd vc (upd C F (.dK kvs')) :=
  ⟨by rw [upd_ne (ne_of y.ins hx (fun z => nomatch z))]; exact y.ins, ⟨kvs', upd_same, hk.keep (kt_upd hx (fun _ z => nomatch z))⟩, let ⟨k, e1, e2⟩ := y.awa; ⟨k, by rw [upd_ne y.ne]; exact e1, e2.keep (kt_upd hx (fun _ z => nomatch z))⟩, y.ne, y.day.keepK hx (.inl rfl), Im.keep (kt_upd hx (fun _ z => nomatch z)) y.cry⟩
theorem HouF.setAwa (y : HouF K h p dx F A vd vc C) {kvs kvs' : List (Key × V)} (hx : C A = some (.dK kvs)) {aw : List (Int × Bool)} (hk : KVs aw kvs' C) : HouF K { h with away := aw } p dx F A vd vc (upd C A (.dK kvs')) :=
  ⟨by rw [upd_ne (ne_of y.ins hx (fun z => nomatch z))]; exact y.ins, let ⟨k, e1, e2⟩ := y.fil; ⟨k, by rw [upd_ne y.ne.symm]; exact e1, e2.keep (kt_upd hx (fun _ z => nomatch z))⟩, ⟨kvs', upd_same, hk.keep (kt_upd hx (fun _ z => nomatch z))⟩, y.ne, y.day.keepK hx (.inr rfl), Im.keep (kt_upd hx (fun _ z => nomatch z)) y.cry⟩
theorem HouF.setIns (y : HouF K h p dx F A vd vc C) {h' : Hou K} {vd' vc' : V} (ef : h'.files = h.files) (ea : h'.away = h.away) (hd : DayV K h'.day F A vd' C) (hc : r h'.cries vc' C) : HouF K h' p dx F A vd' vc' (upd C p (.ins (He.ga K "House") dx (houFs h'.hands h'.t h'.p h'.next (.ref F) (.ref A) h'.byDay vd' vc'))) := by
  have kt := kt_upd (o := .ins (He.ga K "House") dx (houFs h'.hands h'.t h'.p h'.next (.ref F) (.ref A) h'.byDay vd' vc')) y.ins (fun _ z => nomatch z)
  refine ⟨upd_same, ?_, ?_, y.ne, ?_, Im.keep kt hc⟩
  · obtain ⟨k, e1, e2⟩ := y.fil
    rw [ef]
    exact ⟨k, by rw [upd_ne (ne_of e1 y.ins (fun z => nomatch z))]; exact e1, e2.keep kt⟩
  · obtain ⟨k, e1, e2⟩ := y.awa
    rw [ea]
    exact ⟨k, by rw [upd_ne (ne_of e1 y.ins (fun z => nomatch z))]; exact e1, e2.keep kt⟩
  · cases hd' : h'.day with
    | none => rw [hd'] at hd; exact hd
    | some d =>
      rw [hd'] at hd
      obtain ⟨q, dx, Fd, Hd, vw, ro, e, n1, n2, z⟩ := hd
      obtain ⟨k, e1, e2⟩ := z.fil
      exact ⟨q, dx, Fd, Hd, vw, ro, e, n1, n2, z.keep y.ins (fun _ z => nomatch z) (ne_of z.ins y.ins houFs_ne) (ne_of e1 y.ins (fun z => nomatch z)) (ne_of z.lst y.ins (fun z => nomatch z)) fun w hw => ne_of (z.rows w hw) y.ins (fun z => nomatch z)⟩
end
/-! ### what a call of a house's method asks and gives -/
def spH (K : PySem.W.Frag) {ι β : Type} [Im β] (args : ι → Ars) (pre : ι → Hou K → Prop) (st : ι → Hou K → Hou K) (val : ι → Hou K → β) : Sp := fun vs H Q _ => ∃ (i : ι) (Hc : Hp) (h : Hou K) (p : Addr) (ws : List V), vs = .ref p :: ws ∧ (args i).p ws H ∧ Same Hc H ∧ HouAt K h p (cut Hc H) ∧ pre i h ∧ ∀ v H', Same Hc H' → KeepT H H' → HouAt K (st i h) p (cut Hc H') → r (val i h) v H' → Q v H'
def endsM (K : PySem.W.Frag) (Hc He : Hp) (p : Addr) (h' : Hou K) {β : Type} [Im β] (u : β) : Ends where
  nx _ H' := Same Hc H' ∧ KeepT He H' ∧ HouAt K h' p (cut Hc H') ∧ r u .non H'
  rt v H' := Same Hc H' ∧ KeepT He H' ∧ HouAt K h' p (cut Hc H') ∧ r u v H'
section
variable {P : Program} {w : World} {K : PySem.W.Frag} {mg : Str → Option Value} {base : Heap} {x qual : Str} {params : Arguments} {body : List Stmt} {scope : Scope} {f : Addr} {fd : FuncData} {N ps : List Str}
theorem hm_ok {ι β : Type} [Im β] {args : ι → Ars} {pre : ι → Hou K → Prop} {st : ι → Hou K → Hou K} {val : ι → Hou K → β} (gs : ι → List Slot) (n : Nat) {k : Nat} {dk : List V} {kw : List (Str × V)} (F : FunD K x qual params body scope dk kw f fd) (S : FnScope N ("self" :: ps) scope) (hE : ∀ i, Ent (args i) (gs i)) (hps : ∀ i, (gs i).length = ps.length) (hn : ∀ i, N.length = (gs i).length + 1 + n)
    (hb : ∀ (cdv : Value) (A : Around) (outer : List Env) (s : Shared) (H : Hp) (Ex : XK) (i : ι) (Hc : Hp) (h : Hou K) (p : Addr), Room k (A.deeper (envOfC qual scope s.heap.objs.size f cdv)) → pre i h → Same Hc H → HouAt K h p (cut Hc H) →
      B (cxOf CX0 P w K mg base N qual scope f cdv A outer s H Ex).nox H (.im (Adr.mk p) :: (gs i ++ List.replicate n .no)) body (endsM K Hc H p (st i h) (val i h))) : FnOk P w K mg base CX0 (k + 1) f fd ("self" :: ps) (spH K args pre st val) := by
  refine F.ok S (fun vs H Q Ex ⟨i, _, _, p, ws, e, h1, _⟩ => by rw [e, List.length_cons, ((hE i) ws H h1).1, hps i]; rfl) fun cdv A outer s H vs Q Ex hr ⟨i, Hc, h, p, ws, e, h1, h2, h3, h4, q⟩ => ?_
  subst e
  refine ⟨_, PSs.nox pss_in, ?_⟩
  have hE' : Ent (.cons (Adr.mk p) (args i)) (.im (Adr.mk p) :: gs i) := ent_im (hE i)
  exact tB_mono (hb cdv A outer s H Ex i Hc h p hr h4 h2 h3 _ H (ent_at hE' (by rw [hn i, List.length_cons]) ⟨_, ws, rfl, rfl, h1⟩)) (fun _ H' z => q _ H' z.1 z.2.1 z.2.2.1 z.2.2.2) (fun v H' z => q v H' z.1 z.2.1 z.2.2.1 z.2.2.2) (fun _ _ z => z) fun _ _ z => z
end
section
variable {X : Cx} {H0 He Hc : Hp} {G G' : List Slot} {e a b c o tg i : Expr} {es : List Expr} {pos p1 p2 apos cpos p' : Pos} {D : Ends} {st : Stmt} {rest body els : List Stmt} {K : PySem.W.Frag} {h' : Hou K} {p : Addr}
/-- what is kept so far: the rest of the heap, the tuples, the house -/
structure HS (K : PySem.W.Frag) (Hc He : Hp) (p : Addr) (h : Hou K) (Hb : Hp) : Prop where
  s : Same Hc Hb
  k : KeepT He Hb
  a : HouAt K h p (cut Hc Hb)
theorem HS.mono {h : Hou K} {Hb Hb' : Hp} (x : HS K Hc He p h Hb) (s : Same Hb Hb') : HS K Hc He p h Hb' := ⟨Same.trans x.s s, KeepT.trans x.k (keepT s), x.a.mono (cut_mono s)⟩
theorem HS.at0 {h : Hou K} {Hb : Hp} (x : HS K Hc He p h Hb) : HouAt K h p Hb := x.a.mono (cut_some x.s)
/-- one of its things is written -/
theorem HS.upd {h : Hou K} {Hb : Hp} {q : Addr} {u o : HO} (x : HS K Hc He p h Hb) (hq : cut Hc Hb q = some u) (nt : ∀ xs, u ≠ .tup xs) {h' : Hou K} (ha : HouAt K h' p (upd (cut Hc Hb) q o)) : HS K Hc He p h' (upd Hb q o) := by
  have hc := new_free hq nt
  refine ⟨Same.cutU x.s hc, KeepT.trans x.k (kt_upd (cut_some x.s _ _ hq) nt), ?_⟩
  rw [cut_upd hc]
  exact ha
theorem b_retM {β : Type} [Im β] {u : β} (he : E X H0 G e (Val u)) (hs : HS K Hc He p h' H0) (hD : D.rt = (endsM K Hc He p h' u).rt := by rfl) : B X H0 G (.Return (some e) pos :: rest) D := B.seq fun σ H h0 => ps_out (ps_ret pe_in) (he σ H _ h0 fun v H1 s1 p1 => by
  show D.rt v H1
  rw [hD]
  have := hs.mono (Same.trans h0.same s1)
  exact ⟨this.s, this.k, this.a, p1⟩)
theorem b_endM (hs : HS K Hc He p h' H0) (hD : D.nx = (endsM K Hc He p h' ()).nx := by rfl) : B X H0 G [] D := b_nil fun σ H a => by
  rw [hD]
  have := hs.mono a.same
  exact ⟨this.s, this.k, this.a, rfl⟩
/-- d[i] = e, a dict of the base: what the value leans on is in the base -/
theorem b_dputB {m : Nat} (hm : Room m X.A) {α : Type} [Im α] {u : α} {q : Addr} {kvs : List (Key × V)} {x : Int} (he : E X H0 G e (Val u)) (hx : H0 q = some (.dK kvs)) (hl : kvs.length < 1000000) (ho : E X H0 G o (Val (Adr.mk q))) (hi : E X H0 G i (Val x))
    (hr : ∀ v Hb, Same H0 Hb → r u v Hb → ∃ G', Chg Hb (upd Hb q (.dK (putK kvs (.inl x) v))) G G' ∧ B X (upd Hb q (.dK (putK kvs (.inl x) v))) G' rest D)
    (hs : swapsWith e (some (.Subscript o i p')) pos.line X.env = pure false := by rfl) : B X H0 G (.Assign [.Subscript o i p'] e pos :: rest) D := B.seq fun σ H h0 => ps_out (ps_dput (Rm.u hm) pe_in pe_in pe_in hs) (he σ H _ h0 fun v H1 s1 p1 => ho σ H1 _ (h0.ext s1) fun w H2 s2 p2 => hi σ H2 _ ((h0.ext s1).ext s2) fun z H3 s3 p3 => by
  have a3 := (((h0.ext s1).ext s2).ext s3).reb (Same.refl H3)
  have p2 : w = .ref q := p2
  have p3 : z = .int x := p3
  subst p2 p3
  have kt : KeepT H3 (reb H0 H3 H3) := fun b xs e => by
    cases hb : H0 b with
    | some y =>
      have := s3 _ _ (s2 _ _ (s1 _ _ (h0.same _ _ hb)))
      rw [e] at this
      cases this
      exact reb_old _ _ hb
    | none =>
      unfold reb
      rw [hb]
      show cut H3 H3 b = _
      unfold cut
      rw [e]
  obtain ⟨G', c1, b1⟩ := hr v (reb H0 H3 H3) reb_old (Im.keep kt (Ty.mono (Same.trans s2 s3) p1))
  have hx' := reb_old (H := H3) (H1 := H3) _ _ hx
  have hz : kvs.length < sizeLine := by
    have : sizeLine = 16777216 := by decide
    omega
  exact ⟨q, _, rfl, .inl ⟨kvs, .inl x, a3.same _ _ hx', rfl, hz, rfl⟩, b1 σ _ (a3.upd0 hx' (fun _ z => nomatch z) c1)⟩)
end
section
variable {P : Program} {w : World} {K : PySem.W.Frag} {mg : Str → Option Value} {base : Heap}
theorem hf_putNext {hands t p next next' : Int} {vf va vd vc : V} {bd : Bool} : putF ("house_next" : Str) (V.int next') (houFs hands t p next vf va bd vd vc) = houFs hands t p next' vf va bd vd vc := by rfl
theorem hf_putByDay {hands t p next : Int} {vf va vd vc : V} {bd bd' : Bool} : putF ("house_by_day" : Str) (V.bl bd') (houFs hands t p next vf va bd vd vc) = houFs hands t p next vf va bd' vd vc := by rfl
theorem hf_putDay {hands t p next : Int} {vf va vd vd' vc : V} {bd : Bool} : putF ("house_day" : Str) vd' (houFs hands t p next vf va bd vd vc) = houFs hands t p next vf va bd vd' vc := by rfl
theorem hf_putCries {hands t p next : Int} {vf va vd vc vc' : V} {bd : Bool} : putF ("house_cries" : Str) vc' (houFs hands t p next vf va bd vd vc) = houFs hands t p next vf va bd vd vc' := by rfl
/-! ### bring -/
theorem ok_House_bring (T : Tx K mg) : CalM P w K mg base 3 (He.ga K "House") "bring" ["self", "file"] (spH K (β := Int) (fun i : ((List Int)) => (.cons i .nil)) (fun i h => (fun (file : (List Int)) (h : Hou K) => h.byDay = false ∧ nk h.hands h.t ∧ (file.length : Int) = chooseI h.hands h.t ∧ file.length < 1000 ∧ (∀ x ∈ file, (0 : Int) ≤ x ∧ x < h.p) ∧ h.files.length < 1000) i h) (fun i h => (fun (file : (List Int)) (h : Hou K) => { h with files := dput h.files h.next file, next := h.next + 1 }) i h) (fun i h => (fun (file : (List Int)) (h : Hou K) => h.next) i h)) := by
  obtain ⟨fd, F⟩ := T.f_House_bring
  refine calM_of F T.e_House_bring T.c_House (hm_ok (fun i => [.im (i)]) 1 F sc_House_bring (fun i => (ent_im ent_nil)) (fun _ => rfl) (fun _ => rfl) fun cdv A outer s H Ex i Hc h p hr hp hs hh => ?_) (fun _ _ _ _ _ _ us hl => match us, hl with | [_, _], _ => rfl)
  revert i; intro file hp
  have hp : h.byDay = false ∧ nk h.hands h.t ∧ (file.length : Int) = chooseI h.hands h.t ∧ file.length < 1000 ∧ (∀ x ∈ file, (0 : Int) ≤ x ∧ x < h.p) ∧ h.files.length < 1000 := hp
  have hh0 := hh.mono (cut_some hs)
  obtain ⟨h1, h2, h3, h4, h5, h6⟩ := hp
  have S0 : HS K Hc H p h H := ⟨hs, KeepT.refl _, hh⟩
  obtain ⟨dx, FA, AA, vd, vc, HF⟩ := hh
  have HF0 := HF.mono (cut_some hs)
  refine b_drop (e_meth0 (ok_House_refuse_by_day T) hr h h1 (hou_no "refuse_by_day" (fun _ _ _ _ _ _ _ _ _ => by rfl) h) (E.ofOld (E.there (e_var 0) ⟨p, rfl, hh0⟩))) ?_
  refine b_ifN (et_not (et_val (e_call (ok_is_file T) hr (h.p, h.hands, h.t, file) ⟨h2, h3, h4, h5⟩ (ea_cons (E.ofOld (e_fldB HF0.ins T.c_House T.a_House_house_p hf_p (u := h.p) rfl (e_var 0))) (ea_cons (E.ofOld (e_fldB HF0.ins T.c_House T.a_House_house_hands hf_hands (u := h.hands) rfl (e_var 0))) (ea_cons (E.ofOld (e_fldB HF0.ins T.c_House T.a_House_house_t hf_t (u := h.t) rfl (e_var 0))) (ea_cons (e_var 1) ea_nil))))))) rfl ?_
  refine b_set 2 (E.ofOld (e_fldB HF0.ins T.c_House T.a_House_house_next hf_next (u := h.next) rfl (e_var 0))) ?_ sc_House_bring.nd
  obtain ⟨kvs, hk1, hk2⟩ := HF.fil
  have hk0 := cut_some hs _ _ hk1
  refine b_dputB hr (u := file) (x := h.next) (e_var 1) hk0 (by rw [← Paired.length hk2]; omega) (e_fldA HF0.ins T.c_House T.a_House_house_files hf_files (e_var 0)) (e_var 2) (fun v Hb sb rv => ⟨_, .im _ (.im _ (.im _ .nil)), ?_⟩)
  have S1 := S0.mono sb
  have HF1 := HF.mono (cut_mono sb)
  have rv' : r file v (cut Hc Hb) := Im.keep (keep_cut S1.s) rv
  have hk1' := cut_mono sb _ _ hk1
  have HF2 := HF1.setFil hk1' (KVs.put (i := h.next) (hk2.mono (cut_mono sb)) rv')
  have S2 : HS K Hc H p { h with files := dput h.files h.next file } _ := S1.upd hk1' (fun _ z => nomatch z) ⟨dx, FA, AA, vd, vc, HF2⟩
  have hcF : Hc FA = none := new_free hk1 fun _ z => nomatch z
  rw [← cut_upd hcF] at HF2
  have HF20 := HF2.mono (cut_some S2.s)
  refine b_fldaug HF20.ins T.c_House T.a_House_house_next (by show 9 < 1000; decide) hf_next (e_var 0) e_int (.im _ (.im _ (.im _ .nil))) ?_
  rw [hf_putNext]
  have HF3 := HF2.setIns (h' := { h with files := dput h.files h.next file, next := h.next + 1 }) rfl rfl HF2.day HF2.cry
  exact b_retM (e_var 2) (S2.upd HF2.ins (fun _ z => nomatch z) ⟨dx, FA, AA, vd, vc, HF3⟩)
end
end Lk

/-! LkH5 -/
set_option Elab.async false
set_option linter.all false
set_option maxRecDepth 100000
set_option maxHeartbeats 4000000
set_option autoImplicit false
/-! House: drop, away, home, night, call. -/
namespace Lk
open PySem PySem.Spec PyProof.Rows L2
open Ty (r)
theorem dgetS {α : Type} [Ty α] {l : List (Int × α)} {kvs : List (Key × V)} {H : Hp} {x : Int} (h : KVs l kvs H) (hd : (dget l x).isSome = true) : (valV kvs (.inl x)).isSome = true := by
  rw [dgetV h]; exact hd
section
variable {P : Program} {w : World} {K : PySem.W.Frag} {mg : Str → Option Value} {base : Heap}
theorem ok_House_drop (T : Tx K mg) : CalM P w K mg base 3 (He.ga K "House") "drop" ["self", "number"] (spH K (β := Unit) (fun i : Int => (.cons i .nil)) (fun i h => (fun (number : Int) (h : Hou K) => h.byDay = false ∧ (0 ≤ number ∧ number ≤ h.next) ∧ (dget h.files number).isSome = true) i h) (fun i h => (fun (number : Int) (h : Hou K) => { h with files := ddrop h.files number }) i h) (fun i h => (fun (number : Int) (h : Hou K) => ()) i h)) := by
  obtain ⟨fd, F⟩ := T.f_House_drop
  refine calM_of F T.e_House_drop T.c_House (hm_ok (fun i => [.im (i)]) 0 F sc_House_drop (fun i => (ent_im ent_nil)) (fun _ => rfl) (fun _ => rfl) fun cdv A outer s H Ex i Hc h p hr hp hs hh => ?_) (fun _ _ _ _ _ _ us hl => match us, hl with | [_, _], _ => rfl)
  revert i; intro number hp
  have hp : h.byDay = false ∧ (0 ≤ number ∧ number ≤ h.next) ∧ (dget h.files number).isSome = true := hp
  have hh0 := hh.mono (cut_some hs)
  obtain ⟨h1, h2, h3⟩ := hp
  have S0 : HS K Hc H p h H := ⟨hs, KeepT.refl _, hh⟩
  obtain ⟨dx, FA, AA, vd, vc, HF⟩ := hh
  have HF0 := HF.mono (cut_some hs)
  obtain ⟨kvs, hk1, hk2⟩ := HF.fil
  have hk0 := cut_some hs _ _ hk1
  refine b_drop (e_meth0 (ok_House_refuse_by_day T) hr h h1 (hou_no "refuse_by_day" (fun _ _ _ _ _ _ _ _ _ => by rfl) h) (E.ofOld (E.there (e_var 0) ⟨p, rfl, hh0⟩))) ?_
  refine b_ifN (et_w (ew_or (et_not (et_val (e_call (ok_is_within T) hr (number, 0, h.next) trivial (ea_cons (e_var 1) (ea_cons e_int (ea_cons (E.ofOld (e_fldB HF0.ins T.c_House T.a_House_house_next hf_next (u := h.next) rfl (e_var 0))) ea_nil)))))) fun _ => ew_or1 (et_niK hr (e_var 1) (E.ofOld (E.there (x := Dic.mk h.files) (e_fldA HF0.ins T.c_House T.a_House_house_files hf_files (e_var 0)) (dicR hk0 (hk2.mono (cut_some hs)))))))) ?_ ?_
  · show (!(decide (0 ≤ number) && decide (number ≤ h.next)) || !(dget h.files number).isSome) = false
    rw [decide_eq_true h2.1, decide_eq_true h2.2, h3]; rfl
  · exact b_ddel hk0 (dgetS (hk2.mono (cut_some hs)) h3) (e_fldA HF0.ins T.c_House T.a_House_house_files hf_files (e_var 0)) (e_var 1) (.im _ (.im _ .nil)) (b_endM (S0.upd hk1 (fun _ z => nomatch z) ⟨dx, FA, AA, vd, vc, HF.setFil hk1 (KVs.drop hk2)⟩))
theorem ok_House_away (T : Tx K mg) : CalM P w K mg base 4 (He.ga K "House") "away" ["self", "hand"] (spH K (β := Bool) (fun i : Int => (.cons i .nil)) (fun i h => (fun (hand : Int) (h : Hou K) => (0 ≤ hand ∧ hand < h.hands) ∧ h.away.length < 1000) i h) (fun i h => (fun (hand : Int) (h : Hou K) => { h with away := if (dget h.away hand).isSome = true then h.away else dput h.away hand true }) i h) (fun i h => (fun (hand : Int) (h : Hou K) => !(dget h.away hand).isSome) i h)) := by
  obtain ⟨fd, F⟩ := T.f_House_away
  refine calM_of F T.e_House_away T.c_House (hm_ok (fun i => [.im (i)]) 0 F sc_House_away (fun i => (ent_im ent_nil)) (fun _ => rfl) (fun _ => rfl) fun cdv A outer s H Ex i Hc h p hr hp hs hh => ?_) (fun _ _ _ _ _ _ us hl => match us, hl with | [_, _], _ => rfl)
  revert i; intro hand hp
  have hp : (0 ≤ hand ∧ hand < h.hands) ∧ h.away.length < 1000 := hp
  have hh0 := hh.mono (cut_some hs)
  obtain ⟨h1, h2⟩ := hp
  have S0 : HS K Hc H p h H := ⟨hs, KeepT.refl _, hh⟩
  obtain ⟨dx, FA, AA, vd, vc, HF⟩ := hh
  have HF0 := HF.mono (cut_some hs)
  obtain ⟨kvs, hk1, hk2⟩ := HF.awa
  have hk0 := cut_some hs _ _ hk1
  refine b_drop (e_meth (ok_House_refuse_no_hand T) hr (h, hand) h1 (hou_no "refuse_no_hand" (fun _ _ _ _ _ _ _ _ _ => by rfl) h) (E.ofOld (E.there (e_var 0) ⟨p, rfl, hh0⟩)) (ea_cons (e_var 1) ea_nil)) ?_
  refine b_ifR (et_inK hr (e_var 1) (E.ofOld (E.there (x := Dic.mk h.away) (e_fldA HF0.ins T.c_House T.a_House_house_away hf_away (e_var 0)) (dicR hk0 (hk2.mono (cut_some hs)))))) (fun hb => ?_) fun hb => ?_
  · have S1 : HS K Hc H p { h with away := if (dget h.away hand).isSome = true then h.away else dput h.away hand true } H := by rw [if_pos hb]; exact S0
    have ev : (!(dget h.away hand).isSome) = false := by rw [hb]; rfl
    refine b_retM (u := !(dget h.away hand).isSome) ?_ S1
    rw [ev]; exact e_bl
  · have ev : (!(dget h.away hand).isSome) = true := by rw [hb]; rfl
    refine b_dputB hr (u := true) (x := hand) e_bl hk0 (by rw [← Paired.length hk2]; omega) (e_fldA HF0.ins T.c_House T.a_House_house_away hf_away (e_var 0)) (e_var 1) (fun v Hb sb rv => ⟨_, .im _ (.im _ .nil), ?_⟩)
    have S1 := S0.mono sb
    have HF1 := HF.mono (cut_mono sb)
    have hk1' := cut_mono sb _ _ hk1
    have HF2 := HF1.setAwa hk1' (KVs.put (i := hand) (u := true) (v := v) (hk2.mono (cut_mono sb)) rv)
    have S2 : HS K Hc H p { h with away := if (dget h.away hand).isSome = true then h.away else dput h.away hand true } (upd Hb AA (.dK (putK kvs (.inl hand) v))) := by
      rw [if_neg (by rw [hb]; decide)]
      exact S1.upd hk1' (fun _ z => nomatch z) ⟨dx, FA, AA, vd, vc, HF2⟩
    refine b_retM (u := !(dget h.away hand).isSome) ?_ S2
    rw [ev]; exact e_bl
theorem ok_House_home (T : Tx K mg) : CalM P w K mg base 4 (He.ga K "House") "home" ["self", "hand"] (spH K (β := Bool) (fun i : Int => (.cons i .nil)) (fun i h => (fun (hand : Int) (h : Hou K) => 0 ≤ hand ∧ hand < h.hands) i h) (fun i h => (fun (hand : Int) (h : Hou K) => { h with away := ddrop h.away hand }) i h) (fun i h => (fun (hand : Int) (h : Hou K) => (dget h.away hand).isSome) i h)) := by
  obtain ⟨fd, F⟩ := T.f_House_home
  refine calM_of F T.e_House_home T.c_House (hm_ok (fun i => [.im (i)]) 0 F sc_House_home (fun i => (ent_im ent_nil)) (fun _ => rfl) (fun _ => rfl) fun cdv A outer s H Ex i Hc h p hr hp hs hh => ?_) (fun _ _ _ _ _ _ us hl => match us, hl with | [_, _], _ => rfl)
  revert i; intro hand hp
  have hp : 0 ≤ hand ∧ hand < h.hands := hp
  have hh0 := hh.mono (cut_some hs)
  have S0 : HS K Hc H p h H := ⟨hs, KeepT.refl _, hh⟩
  obtain ⟨dx, FA, AA, vd, vc, HF⟩ := hh
  have HF0 := HF.mono (cut_some hs)
  obtain ⟨kvs, hk1, hk2⟩ := HF.awa
  have hk0 := cut_some hs _ _ hk1
  refine b_drop (e_meth (ok_House_refuse_no_hand T) hr (h, hand) hp (hou_no "refuse_no_hand" (fun _ _ _ _ _ _ _ _ _ => by rfl) h) (E.ofOld (E.there (e_var 0) ⟨p, rfl, hh0⟩)) (ea_cons (e_var 1) ea_nil)) ?_
  refine b_ifR (et_niK hr (e_var 1) (E.ofOld (E.there (x := Dic.mk h.away) (e_fldA HF0.ins T.c_House T.a_House_house_away hf_away (e_var 0)) (dicR hk0 (hk2.mono (cut_some hs)))))) (fun hb => ?_) fun hb => ?_
  · have hb' : (dget h.away hand).isSome = false := by revert hb; cases (dget h.away hand).isSome <;> simp
    have e : ddrop h.away hand = h.away := by
      unfold ddrop
      rw [List.filter_eq_self]
      intro a ha
      by_cases he : a.1 = hand
      · exfalso
        have : (h.away.find? fun e => decide (e.1 = hand)).isSome = true := by
          rw [List.find?_isSome]
          exact ⟨a, ha, decide_eq_true he⟩
        unfold dget at hb'
        rw [Option.isSome_map] at hb'
        rw [this] at hb'
        cases hb'
      · simp [he]
    have S1 : HS K Hc H p { h with away := ddrop h.away hand } H := by rw [e]; exact S0
    refine b_retM (u := (dget h.away hand).isSome) ?_ S1
    rw [hb']; exact e_bl
  · have hb' : (dget h.away hand).isSome = true := by revert hb; cases (dget h.away hand).isSome <;> simp
    refine b_ddel hk0 (dgetS (hk2.mono (cut_some hs)) hb') (e_fldA HF0.ins T.c_House T.a_House_house_away hf_away (e_var 0)) (e_var 1) (.im _ (.im _ .nil)) ?_
    have S2 := S0.upd hk1 (fun _ z => nomatch z) ⟨dx, FA, AA, vd, vc, HF.setAwa hk1 (KVs.drop (i := hand) hk2)⟩
    refine b_retM (u := (dget h.away hand).isSome) ?_ S2
    rw [hb']; exact e_bl
def nightI (K : PySem.W.Frag) (hands t p : Int) (d : DayS) : List Int := ((enm d.wishes).filter fun e => !e.2.isNone && !knowsI (piecesI K hands t p (some d) e.1)).map fun e => e.1
theorem ok_House_night (T : Tx K mg) : CalM P w K mg base 10 (He.ga K "House") "night" ["self"] (spH K (β := (List Int)) (fun i : Unit => .nil) (fun i h => (fun (h : Hou K) => h.byDay = true ∧ ∃ d, h.day = some d ∧ d.wishes.length < 1000 ∧ ∀ e ∈ enm d.wishes, e.2 ≠ none → (0 ≤ e.1 ∧ e.1 < h.hands) ∧ PcOk K h.hands h.t h.p d e.1) h) (fun i h => (fun (h : Hou K) => { h with byDay := false }) h) (fun i h => (fun (h : Hou K) => (h.day.map fun d => nightI K h.hands h.t h.p d).getD []) h)) := by
  obtain ⟨fd, F⟩ := T.f_House_night
  refine calM_of F T.e_House_night T.c_House (hm_ok (fun i => []) 3 F sc_House_night (fun i => ent_nil) (fun _ => rfl) (fun _ => rfl) fun cdv A outer s H Ex i Hc h p hr hp hs hh => ?_) (fun _ _ _ _ _ _ us hl => match us, hl with | [_], _ => rfl)
  have hp : h.byDay = true ∧ ∃ d, h.day = some d ∧ d.wishes.length < 1000 ∧ ∀ e ∈ enm d.wishes, e.2 ≠ none → (0 ≤ e.1 ∧ e.1 < h.hands) ∧ PcOk K h.hands h.t h.p d e.1 := hp
  have hh0 := hh.mono (cut_some hs)
  obtain ⟨h1, d, hd, hw, hk⟩ := hp
  have S0 : HS K Hc H p h H := ⟨hs, KeepT.refl _, hh⟩
  obtain ⟨dx, FA, AA, vd, vc, HF⟩ := hh
  have HF0 := HF.mono (cut_some hs)
  refine b_ifN (et_not (et_val (E.ofOld (e_fldB HF0.ins T.c_House T.a_House_house_by_day hf_byDay (u := h.byDay) rfl (e_var 0))))) (by rw [h1]; rfl) ?_
  refine b_fld (e_bl (i := false)) HF0.ins T.c_House T.a_House_house_by_day (by show 9 < 1000; decide) (fun H0' hs => e_var 0) (fun M1 M2 v sM1 sM2 rv => ⟨_, .im _ (.drop _ (.drop _ (.drop _ .nil))), ?_⟩)
  have rv : v = .bl false := rv
  subst rv
  rw [hf_putByDay]
  have S1 := S0.mono (reb_old (H := M1) (H1 := M2))
  have HF1 := HF.mono (cut_mono (reb_old (H := M1) (H1 := M2)))
  have HF2 := HF1.setIns (h' := { h with byDay := false }) rfl rfl HF1.day HF1.cry
  have S2 : HS K Hc H p { h with byDay := false } _ := S1.upd HF1.ins (fun _ z => nomatch z) ⟨dx, FA, AA, vd, vc, HF2⟩
  have hcp : Hc p = none := new_free HF.ins fun _ z => nomatch z
  rw [← cut_upd hcp] at HF2
  have HF20 := HF2.mono (cut_some S2.s)
  obtain ⟨Hb, eHb⟩ : ∃ Hb, upd (reb H M1 M2) p (.ins (He.ga K "House") dx (houFs h.hands h.t h.p h.next (.ref FA) (.ref AA) false vd vc)) = Hb := ⟨_, rfl⟩
  have HF20 : HouF K { h with byDay := false } p dx FA AA vd vc Hb := by rw [← eHb]; exact HF20
  have S3 : HS K Hc H p { h with byDay := false } Hb := by rw [← eHb]; exact S2
  show B _ (upd (reb H M1 M2) p (.ins (He.ga K "House") dx (houFs h.hands h.t h.p h.next (.ref FA) (.ref AA) false vd vc))) _ _ _
  rw [eHb]
  have dv := HF20.day
  have hd' : ({ h with byDay := false } : Hou K).day = some d := hd
  rw [hd'] at dv
  obtain ⟨q, dxd, Fd, Hd, vw, ro, eq', n1, n2, DF⟩ := dv
  subst eq'
  refine b_set 1 (E.ofOld (E.there (x := DayR.mk (K := K) d) (e_fldA HF20.ins T.c_House T.a_House_house_day hf_day (e_var 0)) ⟨q, dxd, Fd, Hd, vw, ro, rfl, DF⟩) |> fun z => e_fldV (d_wishes T ⟨d⟩) z) ?_ sc_House_night.nd
  have ev : (h.day.map fun d => nightI K h.hands h.t h.p d).getD [] = nightI K h.hands h.t h.p d := by rw [hd]; rfl
  refine b_retM (u := (h.day.map fun d => nightI K h.hands h.t h.p d).getD []) ?_ S3
  rw [ev]
  refine e_tupL T.m_tuple (E.val (e_lcI (ff := fun e : Int × Option Int => e.1) (pf := fun e : Int × Option Int => !e.2.isNone && !knowsI (piecesI K h.hands h.t h.p (some d) e.1)) [("hand", 2), ("number", 3)] sc_House_night.nd (ei_enumT T.m_enumerate (e_var 1)) (by rw [enm_len]; omega) (fun s H C cl fp => tgt_2 2 3 rfl sc_House_night.nd) (fun s H C cl fp H0' hs' x hx => et_w (ew_and (et_notN (e_var 3)) fun hn => ew_and1 (et_not (et_val ?_)))) (fun s H C cl fp H0' hs x hx ht => E.fresh (e_var 2))))
  have hn' : x.2 ≠ none := fun z => by rw [z] at hn; cases hn
  obtain ⟨k1, k2⟩ := hk x hx hn'
  have e2 : piecesI K h.hands h.t h.p (some d) x.1 = piecesI K h.hands h.t h.p ({ h with byDay := false } : Hou K).day x.1 := by rw [hd']
  rw [e2]
  exact e_meth (ok_House_knows T) hr (({ h with byDay := false } : Hou K), x.1) ⟨k1, fun d' e => by rw [hd'] at e; cases e; exact k2⟩ (hou_no "knows" (fun _ _ _ _ _ _ _ _ _ => by rfl) _) (E.ofOld (E.there (x := ({ h with byDay := false } : Hou K)) (e_var 0) ⟨p, rfl, (S3.mono hs').at0⟩)) (ea_cons (e_var 2) ea_nil)
end
end Lk

/-! LkH6 -/
set_option Elab.async false
set_option linter.all false
set_option maxRecDepth 100000
set_option maxHeartbeats 4000000
set_option autoImplicit false
/-! House.call -/
namespace Lk
open PySem PySem.Spec PyProof.Rows L2
open Ty (r)
section
variable {X : Cx} {H0 He Hc : Hp} {G G' : List Slot} {e a b c o tg i : Expr} {es : List Expr} {pos p p1 p2 apos cpos p' : Pos} {D : Ends} {st : Stmt} {rest body els : List Stmt}
theorem b_forEM {a : Addr} {l : List Adr} {elts : List Expr} {kk : Nat} {tpos : Pos} {js : List Nat} {up : Int × Adr → List Slot → List Slot} (S : Nat → Hp → Prop) (Gs : Nat → List Slot) (hm : X.mg "enumerate" = none) (he : E X H0 G e (Val (Adr.mk a))) (hl : ∀ i Hb, S i Hb → Hb a = some (.lst (l.map fun x => V.ref x.a))) (ht : Tgt X (.Tuple elts kk tpos) js up) (h0 : S 0 H0) (hsub : Sub G (Gs 0))
    (hs : ∀ Hb i x, l[i]? = some x → S i Hb → B X Hb (up (((i : Nat) : Int), x) (Gs i)) body { D with nx := AtS (S (i + 1)) (Gs (i + 1)), ct := AtS (S (i + 1)) (Gs (i + 1)), bk := fun σ H => tB X rest D σ H })
    (hd : ∀ Hb, S l.length Hb → B X Hb (Gs l.length) rest D) (hp : PassesOwn (model X.prog X.w) X.A X.env X.xe) (hc : X.calm = true := by rfl) (hg : Gl X "enumerate" := by rfl) (hst : starEach [e] X.env = [(false, eval e X.env)] := by rfl) (hf : ∀ y, foldedSetIterable (.Call (.Name "enumerate" p) [e] [] p1) X.env y = pure y := by intro _; rfl) :
    B X H0 G (.For (.Tuple elts kk tpos) (.Call (.Name "enumerate" p) [e] [] p1) body [] pos :: rest) D := B.seq fun σ H a0 => ps_out (ps_for hp hc (pi_enum hg hm (pa_cons pe_in pa_nil hst) hst) pg_in pss_in hf) (he σ H _ a0 fun v H1 s1 p1 => by
  have p1 : v = .ref a := p1
  subst p1
  refine ⟨a, l.map fun x => V.ref x.a, rfl, .inl (.inl ((a0.ext s1).same _ _ (hl 0 H0 h0))), ?_⟩
  refine for_it (walk_enum (K := X.K) (a := a) (xs := l.map fun x => V.ref x.a)) (fun i σ' H' => AtS (S i) (Gs i) σ' H') ⟨H0, h0, (a0.ext s1).sub hsub⟩ (fun i σ' H' _ ⟨Hb, sb, q⟩ => .inl (.inl (q.same _ _ (hl i Hb sb)))) (fun i v σ' H' H2 hil ⟨Hb, sb, q⟩ y => ?_) fun σ' H' z => ?_
  · obtain ⟨T, x1, x2, e1, e2, e3, e4, e5⟩ := y
    subst e1 e3
    have e4 : some (V.int ((i : Nat) : Int)) = some x1 := e4
    have e5 : (l.map fun x => V.ref x.a)[i]? = some x2 := e5
    cases e4
    rw [List.getElem?_map] at e5
    cases hx : l[i]? with
    | none => rw [hx] at e5; cases e5
    | some x =>
      rw [hx] at e5
      have e5 : some (V.ref x.a) = some x2 := e5
      cases e5
      refine ht (((i : Nat) : Int), x) (.ref T) σ' _ _ _ _ ⟨T, _, _, rfl, upd_same, rfl, rfl⟩ (q.ext (Same.new (o := .tup [.int ((i : Nat) : Int), .ref x.a]) e2)) fun σ2 q2 _ => ?_
      exact hs Hb i x hx sb σ2 _ q2
  · rw [List.length_map] at z
    obtain ⟨Hb, sb, q⟩ := z
    exact hd Hb sb σ' H' q)
/-- x.append(e), x a list of the base -/
theorem b_appM {α : Type} [Im α] {u : α} {q : Addr} {xs : List V} (ho : E X H0 G o (Val (Adr.mk q))) (he : E X H0 G e (Val u)) (hx : H0 q = some (.lst xs)) (hl : xs.length < 1000000) (hr : ∀ v Hb, Same H0 Hb → r u v Hb → ∃ G', Chg Hb (upd Hb q (.lst (xs ++ [v]))) G G' ∧ B X (upd Hb q (.lst (xs ++ [v]))) G' rest D)
    (hs : starEach [e] X.env = (false, eval e X.env) :: starEach [] X.env := by rfl) (hb : attributeBase o "append" X.env (eval o X.env) = eval o X.env := by rfl) (hline : (p2.endLine == p'.line) = true := by rfl)
    (hfew : ((backTo p' (starEach [e] X.env)).all (fun x => !x.1) && (backToKw p' (keywordEach [] X.env)).all (fun x => x.1.isSome) && decide ([e].length + ([] : List Keyword).length + (if ([] : List Keyword).isEmpty then 0 else 1) < 30)) = true := by rfl) (hpl : (backTo p' (starEach [] X.env)).any (·.1) = false := by rfl)
    (hsw : swapsWith (.Call (.Attribute o "append" p2) [e] [] p') none pos.line X.env = pure false := by rfl) : B X H0 G (.Expr (.Call (.Attribute o "append" p2) [e] [] p') pos :: rest) D := B.seq fun σ H h0 => by
  refine ps_out (ps_expr (pe_bm F.plainAttrs_list F.slot_list_append F.type_list_append mt_append pe_in (pa_cons pe_in pa_nil hs) hb hfew hline hs hpl) hsw) ?_
  refine ho σ H _ h0 fun w H1 s1 p1 => ?_
  have p1 : w = .ref q := p1
  subst p1
  refine ⟨.inl ⟨rfl, xs, .inl (.inl ((h0.ext s1).same _ _ hx))⟩, he σ H1 _ (h0.ext s1) fun v H2 s2 p2 => ?_⟩
  have a2 := ((h0.ext s1).ext s2).reb (Same.refl H2)
  have kt : KeepT H2 (reb H0 H2 H2) := fun b xs e => by
    cases hb : H0 b with
    | some y =>
      have := s2 _ _ (s1 _ _ (h0.same _ _ hb))
      rw [e] at this
      cases this
      exact reb_old _ _ hb
    | none =>
      unfold reb
      rw [hb]
      show cut H2 H2 b = _
      unfold cut
      rw [e]
  obtain ⟨G', c1, b1⟩ := hr v (reb H0 H2 H2) reb_old (Im.keep kt p2)
  have hx' := reb_old (H := H2) (H1 := H2) _ _ hx
  have hz : xs.length < sizeLine := by
    have : sizeLine = 16777216 := by decide
    omega
  exact ⟨q, xs, v, rfl, rfl, a2.same _ _ hx', hz, b1 σ _ (a2.upd0 hx' (fun _ z => nomatch z) c1)⟩
end
theorem mem_set_ne {α : Type} {l : List α} {i : Nat} {x y : α} (h : x ∈ l.set i y) : x = y ∨ ∃ j, j ≠ i ∧ l[j]? = some x := by
  obtain ⟨j, hj⟩ := List.getElem?_of_mem h
  rw [List.getElem?_set] at hj
  by_cases e : i = j
  · subst e
    rw [if_pos rfl] at hj
    split at hj
    · cases hj; exact .inl rfl
    · cases hj
  · rw [if_neg e] at hj
    exact .inr ⟨j, fun z => e z.symm, hj⟩
theorem nodup_ne {α : Type} {l : List α} (h : l.Nodup) {i j : Nat} {x y : α} (hi : l[i]? = some x) (hj : l[j]? = some y) (hn : j ≠ i) : y ≠ x := fun e => by
  subst e
  have h1 := (List.getElem?_eq_some_iff.mp hi)
  have h2 := (List.getElem?_eq_some_iff.mp hj)
  obtain ⟨a1, a2⟩ := h1
  obtain ⟨b1, b2⟩ := h2
  have h' := List.pairwise_iff_getElem.mp h
  rcases Nat.lt_or_gt_of_ne hn with z | z
  · exact h' j i b1 a1 z (b2.trans a2.symm)
  · exact h' i j a1 b1 z (a2.trans b2.symm)
section
variable {K : PySem.W.Frag} {h : Hou K} {d : DayS} {p q dx dx' F A Fd Hd x : Addr} {vd vc vw : V} {ro : List RowO} {C : Hp} {o u : HO}
theorem rowONe {ro : List RowO} {L : Addr} {x : RowO} (hn : ro ≠ []) (h : C L = some (.lst (ro.map fun x => V.ref x.a))) (hx : x.at C) : x.a ≠ L := fun e => by
  unfold RowO.at at hx
  rw [e, h] at hx
  injection hx with hx
  injection hx with hx
  cases ro with
  | nil => exact hn rfl
  | cons y ro =>
    cases hl : x.l with
    | nil => rw [hl] at hx; cases hx
    | cons z l => rw [hl] at hx; injection hx with h1 _; cases z <;> cases h1
/-- one row grows -/
theorem DayF.row (y : DayF K d q dx Fd Hd vw ro C) {i : Nat} {x : RowO} (hi : ro[i]? = some x) {l : List (Option Int)} : DayF K { d with heard := d.heard.set i l } q dx Fd Hd vw (ro.set i ⟨x.a, l⟩) (upd C x.a (.lst (l.map vO))) := by
  have hx := y.rows x (List.mem_of_getElem? hi)
  have hne : ro ≠ [] := fun z => by rw [z] at hi; simp at hi
  have kt := kt_upd (o := .lst (l.map vO)) hx (fun _ z => nomatch z)
  have ea : (ro.set i ⟨x.a, l⟩).map (·.a) = ro.map (·.a) := by
    rw [List.map_set]
    apply List.ext_getElem?
    intro j
    rw [List.getElem?_set]
    by_cases e : i = j
    · subst e
      rw [if_pos rfl, List.getElem?_map, hi]
      have := (List.getElem?_eq_some_iff.mp hi).1
      rw [if_pos (by rw [List.length_map]; exact this)]
      rfl
    · rw [if_neg e]
  refine ⟨by rw [upd_ne (ne_of y.ins hx (fun z => nomatch z))]; exact y.ins, Im.keep kt y.wis, let ⟨k, e1, e2⟩ := y.fil; ⟨k, by rw [upd_ne (ne_of e1 hx (fun z => nomatch z))]; exact e1, e2.keep kt⟩, ?_, fun z hz => ?_, ?_, by rw [ea]; exact y.nd⟩
  · rw [upd_ne (rowONe hne y.lst hx).symm, y.lst]
    have : (ro.set i ⟨x.a, l⟩).map (fun x => V.ref x.a) = ro.map fun x => V.ref x.a := by
      have := congrArg (List.map V.ref) ea
      rw [List.map_map, List.map_map] at this
      exact this
    rw [this]
  · show upd C x.a _ z.a = _
    rcases mem_set_ne hz with rfl | ⟨j, hj, e⟩
    · exact upd_same
    · have := nodup_ne y.nd (i := i) (j := j) (x := x.a) (y := z.a) (by rw [List.getElem?_map, hi]; rfl) (by rw [List.getElem?_map, e]; rfl) hj
      rw [upd_ne this]
      exact y.rows z (List.mem_of_getElem? e)
  · rw [List.map_set, y.eq]
theorem HouF.row (y : HouF K h p dx F A (.ref q) vc C) {x : RowO} (hx : x.at C) {l : List (Option Int)} {d' : DayS} (n1 : Fd ≠ F) (n2 : Fd ≠ A) (hd : DayF K d' q dx' Fd Hd vw ro (upd C x.a (.lst (l.map vO)))) : HouF K { h with day := some d' } p dx F A (.ref q) vc (upd C x.a (.lst (l.map vO))) := by
  have kt := kt_upd (o := .lst (l.map vO)) hx (fun _ z => nomatch z)
  exact ⟨by rw [upd_ne (ne_of y.ins hx (fun z => nomatch z))]; exact y.ins, let ⟨k, e1, e2⟩ := y.fil; ⟨k, by rw [upd_ne (ne_of e1 hx (fun z => nomatch z))]; exact e1, e2.keep kt⟩, let ⟨k, e1, e2⟩ := y.awa; ⟨k, by rw [upd_ne (ne_of e1 hx (fun z => nomatch z))]; exact e1, e2.keep kt⟩, y.ne, ⟨q, dx', Fd, Hd, vw, ro, rfl, n1, n2, hd⟩, Im.keep kt y.cry⟩
end
def hear (away : List (Int × Bool)) (number : Int) (hand : Int) : Option Int := if (dget away hand).isSome = true then none else some number
def callHeard (heard : List (List (Option Int))) (away : List (Int × Bool)) (number : Int) : List (List (Option Int)) := (enm heard).map fun e => e.2 ++ [hear away number e.1]
theorem half_step {α : Type} {A B : List α} (hl : A.length = B.length) {i : Nat} {x : α} (h : A[i]? = some x) : (A.take i ++ B.drop i).set i x = A.take (i + 1) ++ B.drop (i + 1) := by
  obtain ⟨hi, hx⟩ := List.getElem?_eq_some_iff.mp h
  have h1 : (A.take i).length = i := by rw [List.length_take]; omega
  rw [List.set_append_right i x (by omega), h1, Nat.sub_self, List.take_succ, h]
  have h2 : B.drop i = B[i]'(by omega) :: B.drop (i + 1) := by rw [List.drop_eq_getElem_cons]
  rw [h2, List.set_cons_zero, List.append_assoc]
  rfl
section
variable {P : Program} {w : World} {K : PySem.W.Frag} {mg : Str → Option Value} {base : Heap}
def nextN (h : Hou K) : Int := (atI h.cries (((h.day.map heardLen).getD 0 : Nat) : Int)).getD 0
def callD (h : Hou K) (d : DayS) : DayS := { d with heard := callHeard d.heard h.away (nextN h) }
theorem ok_House_call (T : Tx K mg) : CalM P w K mg base 2 (He.ga K "House") "call" ["self"] (spH K (β := Int) (fun i : Unit => .nil) (fun i h => (fun (h : Hou K) => h.byDay = true ∧ ∃ d, h.day = some d ∧ d.heard ≠ [] ∧ heardLen d < h.cries.length ∧ h.cries.length < 1000000 ∧ (∀ row ∈ d.heard, row.length < 100000)) h) (fun i h => (fun (h : Hou K) => { h with day := h.day.map (callD h) }) h) (fun i h => (fun (h : Hou K) => nextN h) h)) := by
  obtain ⟨fd, F⟩ := T.f_House_call
  refine calM_of F T.e_House_call T.c_House (hm_ok (fun i => []) 3 F sc_House_call (fun i => ent_nil) (fun _ => rfl) (fun _ => rfl) fun cdv A outer s H Ex i Hc h p hr hp hs hh => ?_) (fun _ _ _ _ _ _ us hl => match us, hl with | [_], _ => rfl)
  have hp : h.byDay = true ∧ ∃ d, h.day = some d ∧ d.heard ≠ [] ∧ heardLen d < h.cries.length ∧ h.cries.length < 1000000 ∧ (∀ row ∈ d.heard, row.length < 100000) := hp
  have hh0 := hh.mono (cut_some hs)
  obtain ⟨h1, d, h2, h3, h4, h5, h6⟩ := hp
  have S0 : HS K Hc H p h H := ⟨hs, KeepT.refl _, hh⟩
  obtain ⟨dx, FA, AA, vd, vc, HF⟩ := hh
  have HF0 := HF.mono (cut_some hs)
  refine b_set 1 (x := nextN h) (e_meth0 (ok_House_next_number T) hr h ⟨h1, d, h2, h3, h4, h5⟩ (hou_no "next_number" (fun _ _ _ _ _ _ _ _ _ => by rfl) h) (E.ofOld (E.there (x := h) (e_var 0) ⟨p, rfl, hh0⟩))) ?_ sc_House_call.nd
  have dv := HF.day
  rw [h2] at dv
  obtain ⟨q, dxd, Fd, Hd, vw, ro, eq', n1, n2, DF⟩ := dv
  subst eq'
  have DF0 := DF.mono (cut_some hs)
  have rl : ro.length = d.heard.length := by rw [← DF.eq, List.length_map]
  have cl : (callHeard d.heard h.away (nextN h)).length = d.heard.length := by unfold callHeard; rw [List.length_map, enm_len]
  have eh : ∀ {i : Nat} {row : List (Option Int)}, d.heard[i]? = some row → (callHeard d.heard h.away (nextN h))[i]? = some (row ++ [hear h.away (nextN h) (i : Int)]) := fun {i row} e => by
    unfold callHeard
    rw [List.getElem?_map, enm_get e]
    rfl
  refine b_forEM (a := Hd) (l := ro.map fun x => Adr.mk x.a) (fun i Hb => ∃ ro' : List RowO, Same Hc Hb ∧ KeepT H Hb ∧ HouF K { h with day := some { d with heard := (callHeard d.heard h.away (nextN h)).take i ++ d.heard.drop i } } p dx FA AA (.ref q) vc (cut Hc Hb) ∧ DayF K { d with heard := (callHeard d.heard h.away (nextN h)).take i ++ d.heard.drop i } q dxd Fd Hd vw ro' (cut Hc Hb) ∧ ro'.map (·.a) = ro.map (·.a)) (fun _ => [.im (Adr.mk p), .im (nextN h), .no, .no]) T.m_enumerate (e_fldA DF0.ins T.c_Day T.a_Day_day_heard df_heard (e_fldA HF0.ins T.c_House T.a_House_house_day hf_day (e_var 0))) (fun i Hb ⟨ro', s1, s2, s3, s4, s5⟩ => ?_) (tgt_2 2 3 rfl sc_House_call.nd) ⟨ro, hs, KeepT.refl _, ?_, ?_, rfl⟩ (Sub.of []) (fun Hb i x hx ⟨ro', s1, s2, s3, s4, s5⟩ => ?_) (fun Hb ⟨ro', s1, s2, s3, s4, s5⟩ => ?_) nox_own
  · rw [cut_some s1 _ _ s4.lst]
    have e1 := congrArg (List.map V.ref) s5
    rw [List.map_map, List.map_map] at e1
    rw [List.map_map]
    exact congrArg some (congrArg HO.lst e1)
  · rw [List.take_zero, List.nil_append, List.drop_zero]
    have e : ({ h with day := some { d with heard := d.heard } } : Hou K) = h := by
      cases h
      have h2 : _ = some d := h2
      cases h2
      rfl
    rw [e]
    exact HF
  · rw [List.take_zero, List.nil_append, List.drop_zero]
    exact DF
  · rw [List.getElem?_map] at hx
    cases hro : ro[i]? with
    | none => rw [hro] at hx; cases hx
    | some xr =>
      rw [hro] at hx
      have hx : some (Adr.mk xr.a) = some x := hx
      cases hx
      have il : i < d.heard.length := by rw [← rl]; exact (List.getElem?_eq_some_iff.mp hro).1
      obtain ⟨row, hrow⟩ : ∃ row, d.heard[i]? = some row := ⟨_, List.getElem?_eq_getElem il⟩
      have hr' : ro'.length = ro.length := by
        have := congrArg List.length s5
        rwa [List.length_map, List.length_map] at this
      obtain ⟨x', hx'⟩ : ∃ x', ro'[i]? = some x' := ⟨_, List.getElem?_eq_getElem (by omega)⟩
      have ea : x'.a = xr.a := by
        have h7 : (ro'.map (·.a))[i]? = (ro.map (·.a))[i]? := by rw [s5]
        rw [List.getElem?_map, List.getElem?_map, hx', hro] at h7
        exact Option.some.inj h7
      have el : x'.l = row := by
        have h7 : (ro'.map (·.l))[i]? = ((callHeard d.heard h.away (nextN h)).take i ++ d.heard.drop i)[i]? := by rw [s4.eq]
        have tl : ((callHeard d.heard h.away (nextN h)).take i).length = i := by rw [List.length_take]; omega
        rw [List.getElem?_map, hx', List.getElem?_append_right (by omega), tl, Nat.sub_self, List.getElem?_drop, Nat.add_zero, hrow] at h7
        exact Option.some.inj h7
      have s30 := s3.mono (cut_some s1)
      obtain ⟨kvs, hk1, hk2⟩ := s30.awa
      have hxa : cut Hc Hb xr.a = some (.lst (row.map vO)) := by
        have := s4.rows x' (List.mem_of_getElem? hx')
        unfold RowO.at at this
        rw [ea, el] at this
        exact this
      refine b_appM (u := hear h.away (nextN h) (i : Int)) (q := xr.a) (e_var 3) (e_ite (et_inK hr (e_var 2) (E.ofOld (E.there (x := Dic.mk h.away) (e_fldA s30.ins T.c_House T.a_House_house_away hf_away (e_var 0)) (dicR hk1 hk2)))) (fun _ => e_non) fun _ => E.toSome (e_var 1)) (cut_some s1 _ _ hxa) (by rw [List.length_map]; have := h6 row (List.mem_of_getElem? hrow); omega) (fun v Hb' sb rv => ⟨_, .im _ (.im _ (.drop _ (.drop _ .nil))), ?_⟩)
      have rv := r_vO rv
      subst rv
      have ev : row.map vO ++ [vO (hear h.away (nextN h) (i : Int))] = (row ++ [hear h.away (nextN h) (i : Int)]).map vO := by rw [List.map_append]; rfl
      rw [ev]
      have hxa' := cut_mono sb _ _ hxa
      have s1' := Same.trans s1 sb
      have hcx : Hc xr.a = none := new_free hxa fun _ z => nomatch z
      have D1 := (s4.mono (cut_mono sb)).row hx' (l := row ++ [hear h.away (nextN h) (i : Int)])
      rw [ea] at D1
      have ehs : ((callHeard d.heard h.away (nextN h)).take i ++ d.heard.drop i).set i (row ++ [hear h.away (nextN h) (i : Int)]) = (callHeard d.heard h.away (nextN h)).take (i + 1) ++ d.heard.drop (i + 1) := half_step cl (eh hrow)
      have D1 : DayF K { d with heard := (callHeard d.heard h.away (nextN h)).take (i + 1) ++ d.heard.drop (i + 1) } q dxd Fd Hd vw (ro'.set i ⟨xr.a, row ++ [hear h.away (nextN h) (i : Int)]⟩) (upd (cut Hc Hb') xr.a (.lst ((row ++ [hear h.away (nextN h) (i : Int)]).map vO))) := by rw [← ehs]; exact D1
      have H1 := (s3.mono (cut_mono sb)).row (x := ⟨xr.a, row⟩) hxa' n1 n2 D1
      refine b_nil fun σ H' a => ⟨_, ⟨ro'.set i ⟨xr.a, row ++ [hear h.away (nextN h) (i : Int)]⟩, Same.cutU s1' hcx, KeepT.trans (KeepT.trans s2 (keepT sb)) (kt_upd (cut_some s1' _ _ hxa') (fun _ z => nomatch z)), ?_, ?_, ?_⟩, a⟩
      · rw [cut_upd hcx]; exact H1
      · rw [cut_upd hcx]; exact D1
      · rw [List.map_set]
        apply List.ext_getElem?
        intro j
        rw [List.getElem?_set]
        by_cases e : i = j
        · subst e
          rw [if_pos rfl, List.length_map, if_pos (by omega), List.getElem?_map, hro]
          rfl
        · rw [if_neg e, s5]
  · rw [List.length_map] at s3 s4
    have e1 : (callHeard d.heard h.away (nextN h)).take ro.length ++ d.heard.drop ro.length = callHeard d.heard h.away (nextN h) := by
      rw [rl, List.drop_length, List.append_nil, ← cl, List.take_length]
    rw [e1] at s3
    have e2 : ({ h with day := h.day.map (callD h) } : Hou K) = { h with day := some { d with heard := callHeard d.heard h.away (nextN h) } } := by rw [h2]; rfl
    refine b_retM (h' := { h with day := h.day.map (callD h) }) (e_var 1) ⟨s1, s2, ?_⟩
    rw [e2]
    exact ⟨dx, FA, AA, .ref q, vc, s3⟩
end
end Lk

/-! LkH7 -/
set_option Elab.async false
set_option linter.all false
set_option maxRecDepth 100000
set_option maxHeartbeats 4000000
set_option autoImplicit false
/-! Day and House made. -/
namespace Lk
open PySem PySem.Spec PyProof.Rows L2
open Ty (r)
/-- any value, as it is -/
structure RawV where
  v : V
instance : Im RawV where
  r x v _ := v = x.v
  mono _ h := h
  keep _ h := h
section
variable {X : Cx} {H0 He Hc : Hp} {G G' : List Slot} {e a b c o tg i : Expr} {pos p p1 p2 : Pos} {D : Ends} {rest : List Stmt}
theorem e_none {j : Nat} : E X H0 G (.Constant .none j pos) (Val ()) := fun σ H Q h0 q => pe_out pe_non (q _ H (Same.refl H) rfl)
/-- x.f = e while x is made -/
theorem b_iniV {α : Type} [Im α] {u : α} {f : Str} {x dx C : Addr} {fs : List (Str × V)} (he : E X H0 G e (Val u)) (hs : Same Hc H0) (hcx : Hc x = none) (hx : H0 x = some (.ins C dx fs)) (hch : ∀ {A B : Hp}, Chg A B G G) (hc : Cls X.K C) (hn : NoAttr X.K C f) (hl : fs.length < 1000) (ha : ∀ H0', Same H0 H0' → E X H0' G a (Val (Adr.mk x)))
    (hr : ∀ v Hn, Same Hc Hn → Hn x = some (.ins C dx (putF f v fs)) → (∀ b o, H0 b = some o → b ≠ x → Hn b = some o) → r u v Hn → B X Hn G rest D) (hsw : swapsWith e (some (.Attribute a f p)) pos.line X.env = pure false := by rfl) : B X H0 G (.Assign [.Attribute a f p] e pos :: rest) D := by
  refine b_fld he hx hc hn hl ha (fun M1 M2 v sM sM2 rv => ⟨_, hch, hr v _ (Same.cutU (Same.trans hs reb_old) hcx) upd_same (fun b o hb ne => by rw [upd_ne ne]; exact reb_old _ _ hb) ?_⟩) hsw
  have k1 : KeepT M2 (reb H0 M1 M2) := fun b xs z => by
    cases hb : H0 b with
    | some y =>
      have := sM2 _ _ (sM _ _ hb)
      rw [z] at this
      cases this
      exact reb_old _ _ hb
    | none => exact reb_cut sM _ _ (keep_cut sM2 _ _ z)
  exact Im.keep (KeepT.trans k1 (kt_upd (reb_old _ _ hx) (fun _ z => nomatch z))) rv
theorem b_iniD {α : Type} [Im α] {f : Str} {x dx C : Addr} {fs : List (Str × V)} (he : E X H0 G e (New (Dic.mk ([] : List (Int × α))))) (hs : Same Hc H0) (hcx : Hc x = none) (hx : H0 x = some (.ins C dx fs)) (hch : ∀ {A B : Hp}, Chg A B G G) (hc : Cls X.K C) (hn : NoAttr X.K C f) (hl : fs.length < 1000) (ha : ∀ H0', Same H0 H0' → E X H0' G a (Val (Adr.mk x)))
    (hr : ∀ q Hn, Same Hc Hn → Hn x = some (.ins C dx (putF f (.ref q) fs)) → (∀ b o, H0 b = some o → b ≠ x → Hn b = some o) → H0 q = none → Hn q = some (.dK []) → B X Hn G rest D) (hsw : swapsWith e (some (.Attribute a f p)) pos.line X.env = pure false := by rfl) : B X H0 G (.Assign [.Attribute a f p] e pos :: rest) D := by
  refine b_fld he hx hc hn hl ha (fun M1 M2 v sM sM2 ⟨q, kvs, ev, e1, e2⟩ => ?_) hsw
  subst ev
  have e2 : kvs = [] := by cases e2; rfl
  subst e2
  have nq := Same.free sM (new_free e1 fun _ z => nomatch z)
  have e3 := reb_cut sM _ _ e1
  exact ⟨_, hch, hr q _ (Same.cutU (Same.trans hs reb_old) hcx) upd_same (fun b o hb ne => by rw [upd_ne ne]; exact reb_old _ _ hb) nq (by rw [upd_ne (ne_of e3 (reb_old _ _ hx) (fun z => nomatch z))]; exact e3)⟩
end
section
variable {P : Program} {w : World} {K : PySem.W.Frag} {mg : Str → Option Value} {base : Heap}
def spDayInit (K : PySem.W.Frag) : Sp := fun vs H Q _ => ∃ (Hc : Hp) (x dx : Addr) (vw vf vh : V) (sp : Int), vs = [.ref x, vw, .int sp, vf, vh] ∧ Same Hc H ∧ H x = some (.ins (He.ga K "Day") dx []) ∧ Hc x = none ∧ ∀ H', Same Hc H' → H' x = some (.ins (He.ga K "Day") dx (dayFs vw sp vf vh)) → Q .non H'
theorem ok_Day_init (T : Tx K mg) : ∃ fd, FnOk P w K mg base CX0 1 (He.ma K (He.ga K "Day") "__init__") fd ["self", "wishes", "spares", "files", "heard"] (spDayInit K) ∧ Binds K fd ["self", "wishes", "spares", "files", "heard"] [] := by
  obtain ⟨fd, F⟩ := T.f_Day_init
  refine ⟨fd, F.ok sc_Day_init (fun vs H Q Ex ⟨_, _, _, _, _, _, _, e, _⟩ => by rw [e]; rfl) fun cdv A outer s H vs Q Ex hr ⟨Hc, x, dx, vw, vf, vh, sp, e, hs, hx, hcx, hq⟩ => ?_, F.bindsN (fun _ _ _ _ _ _ us hl => match us, hl with | [_, _, _, _, _], _ => rfl)⟩
  subst e
  refine ⟨_, PSs.nox pss_in, ?_⟩
  suffices hB : B (cxOf CX0 P w K mg base N_Day_init "Day.__init__" (defScope s_Day_init) (He.fAd K ("Day", some "__init__")) cdv A outer s H Ex).nox H [.im (Adr.mk x), .im (RawV.mk vw), .im sp, .im (RawV.mk vf), .im (RawV.mk vh)] (defBody s_Day_init) { nx := fun _ H' => Q .non H', rt := Q } from
    hB _ H (ent_at (R := .cons (Adr.mk x) (.cons (RawV.mk vw) (.cons sp (.cons (RawV.mk vf) (.cons (RawV.mk vh) .nil))))) (gs := [.im (Adr.mk x), .im (RawV.mk vw), .im sp, .im (RawV.mk vf), .im (RawV.mk vh)]) (n := 0) (ent_im (ent_im (ent_im (ent_im (ent_im ent_nil))))) (by rfl) ⟨_, _, rfl, rfl, _, _, rfl, rfl, _, _, rfl, rfl, _, _, rfl, rfl, _, _, rfl, rfl, rfl⟩)
  have chg : ∀ {A B : Hp}, Chg A B [.im (Adr.mk x), .im (RawV.mk vw), .im sp, .im (RawV.mk vf), .im (RawV.mk vh)] [.im (Adr.mk x), .im (RawV.mk vw), .im sp, .im (RawV.mk vf), .im (RawV.mk vh)] := .im _ (.im _ (.im _ (.im _ (.im _ .nil))))
  refine b_fld (e_var 1) hx T.c_Day T.a_Day_day_wishes (by show 0 < 1000; decide) (fun H0' hs => e_var 0) (fun M1 M2 v sM sM2 rv => ⟨_, chg, ?_⟩)
  have rv : v = vw := rv
  subst rv
  obtain ⟨B1, eB⟩ : ∃ B1, upd (reb H M1 M2) x (.ins (He.ga K "Day") dx (putF "day_wishes" v [])) = B1 := ⟨_, rfl⟩
  have hs1 : Same Hc B1 := by rw [← eB]; exact Same.cutU (Same.trans hs reb_old) hcx
  have hx1 : B1 x = some (.ins (He.ga K "Day") dx [("day_wishes", v)]) := by rw [← eB, upd_same]; rfl
  rw [eB]
  clear eB
  refine b_fld (e_var 2) hx1 T.c_Day T.a_Day_day_spares (by show 1 < 1000; decide) (fun H0' hs => e_var 0) (fun M3 M4 v2 sM3 sM4 rv => ⟨_, chg, ?_⟩)
  have rv : v2 = .int sp := rv
  subst rv
  obtain ⟨B2, eB⟩ : ∃ B2, upd (reb B1 M3 M4) x (.ins (He.ga K "Day") dx (putF "day_spares" (.int sp) [("day_wishes", v)])) = B2 := ⟨_, rfl⟩
  have hs2 : Same Hc B2 := by rw [← eB]; exact Same.cutU (Same.trans hs1 reb_old) hcx
  have hx2 : B2 x = some (.ins (He.ga K "Day") dx [("day_wishes", v), ("day_spares", V.int sp)]) := by rw [← eB, upd_same]; rfl
  rw [eB]
  clear eB
  refine b_fld (e_var 3) hx2 T.c_Day T.a_Day_day_files (by show 2 < 1000; decide) (fun H0' hs => e_var 0) (fun M5 M6 v3 sM5 sM6 rv => ⟨_, chg, ?_⟩)
  have rv : v3 = vf := rv
  subst rv
  obtain ⟨B3, eB⟩ : ∃ B3, upd (reb B2 M5 M6) x (.ins (He.ga K "Day") dx (putF "day_files" v3 [("day_wishes", v), ("day_spares", V.int sp)])) = B3 := ⟨_, rfl⟩
  have hs3 : Same Hc B3 := by rw [← eB]; exact Same.cutU (Same.trans hs2 reb_old) hcx
  have hx3 : B3 x = some (.ins (He.ga K "Day") dx [("day_wishes", v), ("day_spares", V.int sp), ("day_files", v3)]) := by rw [← eB, upd_same]; rfl
  rw [eB]
  clear eB
  refine b_fld (e_var 4) hx3 T.c_Day T.a_Day_day_heard (by show 3 < 1000; decide) (fun H0' hs => e_var 0) (fun M7 M8 v4 sM7 sM8 rv => ⟨_, chg, ?_⟩)
  have rv : v4 = vh := rv
  subst rv
  refine b_nil fun σ H' a => hq H' (Same.trans (Same.cutU (Same.trans hs3 reb_old) hcx) a.same) (a.same _ _ ?_)
  rw [upd_same]
  rfl
def hou0 (K : PySem.W.Frag) (hands t p : Int) : Hou K := ⟨hands, t, p, 0, [], [], false, none, []⟩
def primeOk (n : Int) : Prop := 2 ≤ n ∧ ∃ f, wlOk (prC n) prF (prO n) f 2 = true
def spHouInit (K : PySem.W.Frag) : Sp := fun vs H Q _ => ∃ (Hc : Hp) (x dx : Addr) (hands t p : Int), vs = [.ref x, .int hands, .int t, .int p] ∧ Same Hc H ∧ H x = some (.ins (He.ga K "House") dx []) ∧ Hc x = none ∧ (1 ≤ hands ∧ hands ≤ 6) ∧ (0 ≤ t ∧ t ≤ hands) ∧ (2 ≤ p ∧ p < 1000000000) ∧ primeOk p ∧ ∀ H', Same Hc H' → HouAt K (hou0 K hands t p) x (cut Hc H') → Q .non H'
theorem ok_House_init (T : Tx K mg) : ∃ fd, FnOk P w K mg base CX0 2 (He.ma K (He.ga K "House") "__init__") fd ["self", "hands", "t", "p"] (spHouInit K) ∧ Binds K fd ["self", "hands", "t", "p"] [] := by
  obtain ⟨fd, F⟩ := T.f_House_init
  refine ⟨fd, F.ok sc_House_init (fun vs H Q Ex ⟨_, _, _, _, _, _, e, _⟩ => by rw [e]; rfl) fun cdv A outer s H vs Q Ex hr ⟨Hc, x, dx, hands, t, p, e, hs, hx, hcx, h1, h2, h3, h4, hq⟩ => ?_, F.bindsN (fun _ _ _ _ _ _ us hl => match us, hl with | [_, _, _, _], _ => rfl)⟩
  subst e
  refine ⟨_, PSs.nox pss_in, ?_⟩
  suffices hB : B (cxOf CX0 P w K mg base N_House_init "House.__init__" (defScope s_House_init) (He.fAd K ("House", some "__init__")) cdv A outer s H Ex).nox H [.im (Adr.mk x), .im hands, .im t, .im p] (defBody s_House_init) { nx := fun _ H' => Q .non H', rt := Q } from
    hB _ H (ent_at (R := .cons (Adr.mk x) (.cons hands (.cons t (.cons p .nil)))) (gs := [.im (Adr.mk x), .im hands, .im t, .im p]) (n := 0) (ent_im (ent_im (ent_im (ent_im ent_nil)))) (by rfl) ⟨_, _, rfl, rfl, _, _, rfl, rfl, _, _, rfl, rfl, _, _, rfl, rfl, rfl⟩)
  have chg : ∀ {A B : Hp}, Chg A B [.im (Adr.mk x), .im hands, .im t, .im p] [.im (Adr.mk x), .im hands, .im t, .im p] := .im _ (.im _ (.im _ (.im _ .nil)))
  refine b_ifN (et_not (et_val (e_call (ok_is_within T) hr (hands, 1, 6) trivial (ea_cons (e_var 1) (ea_cons e_int (ea_cons (e_glob T.n_MOST_HANDS) ea_nil)))))) (by show (!(decide (1 ≤ hands) && decide (hands ≤ 6))) = false; rw [decide_eq_true h1.1, decide_eq_true h1.2]; rfl) ?_
  refine b_ifN (et_not (et_val (e_call (ok_is_within T) hr (t, 0, hands) trivial (ea_cons (e_var 2) (ea_cons e_int (ea_cons (e_var 1) ea_nil)))))) (by show (!(decide (0 ≤ t) && decide (t ≤ hands))) = false; rw [decide_eq_true h2.1, decide_eq_true h2.2]; rfl) ?_
  refine b_ifN (et_w (ew_or (et_not (et_val (e_call (ok_is_within T) hr (p, 2, 1000000000 - 1) trivial (ea_cons (e_var 3) (ea_cons e_int (ea_cons (e_sub (e_glob T.n_P_END) e_int) ea_nil)))))) fun _ => ew_or1 (et_not (et_val (e_call (ok_is_prime T) hr p h4 (ea_cons (e_var 3) ea_nil)))))) (by show (!(decide (2 ≤ p) && decide (p ≤ 1000000000 - 1)) || !true) = false; rw [decide_eq_true h3.1, decide_eq_true (by omega)]; rfl) ?_
  have ha : ∀ {Hb : Hp} (H0' : Hp), Same Hb H0' → E (cxOf CX0 P w K mg base N_House_init "House.__init__" (defScope s_House_init) (He.fAd K ("House", some "__init__")) cdv A outer s H Ex).nox H0' [.im (Adr.mk x), .im hands, .im t, .im p] (.Name "self" ⟨0, 0, 0, 0⟩) (Val (Adr.mk x)) := fun H0' _ => e_var 0
  clear ha
  refine b_iniV (e_var 1) hs hcx hx chg T.c_House T.a_House_house_hands (by show 0 < 1000; decide) (fun H0' hs => e_var 0) (fun v1 B1 s1 x1 k1 r1 => ?_)
  refine b_iniV (e_var 2) s1 hcx x1 chg T.c_House T.a_House_house_t (by show 1 < 1000; decide) (fun H0' hs => e_var 0) (fun v2 B2 s2 x2 k2 r2 => ?_)
  refine b_iniV (e_var 3) s2 hcx x2 chg T.c_House T.a_House_house_p (by show 2 < 1000; decide) (fun H0' hs => e_var 0) (fun v3 B3 s3 x3 k3 r3 => ?_)
  refine b_iniV (e_int (i := 0)) s3 hcx x3 chg T.c_House T.a_House_house_next (by show 3 < 1000; decide) (fun H0' hs => e_var 0) (fun v4 B4 s4 x4 k4 r4 => ?_)
  have r1 : v1 = .int hands := r1
  have r2 : v2 = .int t := r2
  have r3 : v3 = .int p := r3
  have r4 : v4 = .int 0 := r4
  subst r1 r2 r3 r4
  refine b_iniD (α := List Int) e_dic0 s4 hcx x4 chg T.c_House T.a_House_house_files (by show 4 < 1000; decide) (fun H0' hs => e_var 0) (fun FA B5 s5 x5 k5 n5 d5 => ?_)
  refine b_iniD (α := Bool) e_dic0 s5 hcx x5 chg T.c_House T.a_House_house_away (by show 5 < 1000; decide) (fun H0' hs => e_var 0) (fun AA B6 s6 x6 k6 n6 d6 => ?_)
  have nAF : AA ≠ FA := fun z => by subst z; rw [d5] at n6; cases n6
  have d56 := k6 _ _ d5 (ne_of d5 x5 (fun z => nomatch z))
  refine b_iniV (e_bl (i := false)) s6 hcx x6 chg T.c_House T.a_House_house_by_day (by show 6 < 1000; decide) (fun H0' hs => e_var 0) (fun v7 B7 s7 x7 k7 r7 => ?_)
  have r7 : v7 = .bl false := r7
  subst r7
  have f7 := k7 _ _ d56 (ne_of d56 x6 (fun z => nomatch z))
  have a7 := k7 _ _ d6 (ne_of d6 x6 (fun z => nomatch z))
  refine b_iniV e_none s7 hcx x7 chg T.c_House T.a_House_house_day (by show 7 < 1000; decide) (fun H0' hs => e_var 0) (fun v8 B8 s8 x8 k8 r8 => ?_)
  have r8 : v8 = .non := r8
  subst r8
  have f8 := k8 _ _ f7 (ne_of f7 x7 (fun z => nomatch z))
  have a8 := k8 _ _ a7 (ne_of a7 x7 (fun z => nomatch z))
  refine b_iniV (e_tup0 (α := Int)) s8 hcx x8 chg T.c_House T.a_House_house_cries (by show 8 < 1000; decide) (fun H0' hs => e_var 0) (fun v9 B9 s9 x9 k9 r9 => ?_)
  have f9 := k9 _ _ f8 (ne_of f8 x8 (fun z => nomatch z))
  have a9 := k9 _ _ a8 (ne_of a8 x8 (fun z => nomatch z))
  have fF : Hc FA = none := Same.free s4 n5
  have fA : Hc AA = none := Same.free s5 n6
  refine b_nil fun σ H' a => hq H' (Same.trans s9 a.same) (HouAt.mono ⟨dx, FA, AA, .non, v9, cut_new hcx (x9.trans ?_), ⟨[], cut_new fF f9, .nil⟩, ⟨[], cut_new fA a9, .nil⟩, nAF, rfl, Im.keep (keep_cut s9) r9⟩ (cut_mono a.same))
  rfl
/-- House(..) -/
theorem e_house {X : Cx} {H0 : Hp} {G : List Slot} {a b d : Expr} {p pos : Pos} {K : PySem.W.Frag} {mg : Str → Option Value} (T : Tx K mg) (hK : X.K = K) (hmg : X.mg = mg) {m : Nat} {x y z : Int} (hr : Room m X.A) (hk : 3 ≤ m) (h1 : 1 ≤ x ∧ x ≤ 6) (h2 : 0 ≤ y ∧ y ≤ x) (h3 : 2 ≤ z ∧ z < 1000000000) (h4 : primeOk z) (ha : E X H0 G a (Val x)) (hb : E X H0 G b (Val y)) (hd : E X H0 G d (Val z)) (hg : Gl X "House" := by rfl)
    (hst : starEach [a, b, d] X.env = (false, eval a X.env) :: starEach [b, d] X.env := by rfl) (hst2 : starEach [b, d] X.env = (false, eval b X.env) :: starEach [d] X.env := by rfl) (hst3 : starEach [d] X.env = (false, eval d X.env) :: starEach [] X.env := by rfl) (hpl : (backTo pos (starEach [b, d] X.env)).any (·.1) = false := by rfl) :
    E X H0 G (.Call (.Name "House" p) [a, b, d] [] pos) (New (hou0 K x y z)) := fun σ H Q h0 q => by
  subst hK hmg
  obtain ⟨fd, F, hb'⟩ := ok_House_init (P := X.prog) (w := X.w) (base := X.base) T
  refine pe_out (pe_make T.k_House F (hr.mono hk) hg T.g_House hb' .nil pass0 (pa_cons pe_in (pa_cons pe_in (pa_cons pe_in pa_nil hst3) hst2) hst) (by decide) hst hpl) (ha σ H _ h0 fun v1 H1 s1 q1 => hb σ H1 _ (h0.ext s1) fun v2 H2 s2 q2 => hd σ H2 _ ((h0.ext s1).ext s2) fun v3 H3 s3 q3 => fun u dx hz hdx ne => ?_)
  have q1 : v1 = .int x := q1
  have q2 : v2 = .int y := q2
  have q3 : v3 = .int z := q3
  subst q1 q2 q3
  have sn : Same H3 (upd (upd H3 dx (.own u)) u (.ins (He.ga X.K "House") dx [])) := fun c o e => by
    rw [upd_ne (ne_of_none e hz), upd_ne (ne_of_none e hdx)]; exact e
  exact ⟨H3, u, dx, x, y, z, rfl, sn, upd_same, hz, h1, h2, h3, h4, fun H' k1 k2 => ⟨rfl, q _ H' (Same.trans (Same.trans (Same.trans s1 s2) s3) k1) ⟨u, rfl, k2.mono (cut_anti (Same.trans (Same.trans s1 s2) s3) k1)⟩⟩⟩
end
end Lk

/-! LkH8 -/
set_option Elab.async false
set_option linter.all false
set_option maxRecDepth 100000
set_option maxHeartbeats 4000000
set_option autoImplicit false
/-! House.set_day -/
namespace Lk
open PySem PySem.Spec PyProof.Rows L2
open Ty (r)
section
variable {X : Cx} {H0 He Hc : Hp} {G G' : List Slot} {e a b c o tg i : Expr} {pos p p1 p2 : Pos} {D : Ends} {rest : List Stmt}
/-- x.f = e, what it leans on is in the base -/
theorem b_fldM {α : Type} [Im α] {u : α} {f : Str} {x dx C : Addr} {fs : List (Str × V)} (he : E X H0 G e (Val u)) (hx : H0 x = some (.ins C dx fs)) (hch : ∀ {A B : Hp}, Chg A B G G') (hc : Cls X.K C) (hn : NoAttr X.K C f) (hl : fs.length < 1000) (ha : ∀ H0', Same H0 H0' → E X H0' G a (Val (Adr.mk x)))
    (hr : ∀ v Hb, Same H0 Hb → r u v Hb → B X (upd Hb x (.ins C dx (putF f v fs))) G' rest D) (hsw : swapsWith e (some (.Attribute a f p)) pos.line X.env = pure false := by rfl) : B X H0 G (.Assign [.Attribute a f p] e pos :: rest) D := by
  refine b_fld he hx hc hn hl ha (fun M1 M2 v sM sM2 rv => ⟨_, hch, hr v _ reb_old ?_⟩) hsw
  have k1 : KeepT M2 (reb H0 M1 M2) := fun b xs z => by
    cases hb : H0 b with
    | some y =>
      have := sM2 _ _ (sM _ _ hb)
      rw [z] at this
      cases this
      exact reb_old _ _ hb
    | none => exact reb_cut sM _ _ (keep_cut sM2 _ _ z)
  exact Im.keep k1 rv
end
section
variable {P : Program} {w : World} {K : PySem.W.Frag} {mg : Str → Option Value} {base : Heap}
def dayCries (p t : Int) (d : DayS) : List Int := if decide (0 < d.spares) = true then withSpares p (criesI p t d.files d.wishes) d.spares else criesI p t d.files d.wishes
structure SdOk (p t : Int) (d : DayS) : Prop where
  p0 : smallP p
  mo : madeOk t d.wishes
  ml : madeI t d.wishes < 100
  mlo : mlOk t d.wishes = true
  ln : (madeLots t d.wishes).length < 1000
  cr : ∀ lot ∈ madeLots t d.wishes, CryOk p d.files d.wishes lot
  sp : 0 ≤ d.spares ∧ d.spares < 1000
def spSetDay (K : PySem.W.Frag) : Sp := fun vs H Q _ => ∃ (Hc : Hp) (h : Hou K) (d : DayS) (p dx F A : Addr) (vd vc : V) (q dxd Fd Hd : Addr) (vw : V) (ro : List RowO), vs = [.ref p, .ref q] ∧ Same Hc H ∧ HouF K h p dx F A vd vc (cut Hc H) ∧ DayF K d q dxd Fd Hd vw ro (cut Hc H) ∧ Fd ≠ F ∧ Fd ≠ A ∧ SdOk h.p h.t d ∧ ∀ H', Same Hc H' → KeepT H H' → HouAt K { h with day := some d, cries := dayCries h.p h.t d } p (cut Hc H') → Q .non H'
theorem ok_House_set_day (T : Tx K mg) : CalM P w K mg base 6 (He.ga K "House") "set_day" ["self", "day"] (spSetDay K) := by
  obtain ⟨fd, F⟩ := T.f_House_set_day
  refine calM_of F T.e_House_set_day T.c_House (F.ok sc_House_set_day (fun vs H Q Ex ⟨_, _, _, _, _, _, _, _, _, _, _, _, _, _, _, e, _⟩ => by rw [e]; rfl) fun cdv A outer s H vs Q Ex hr ⟨Hc, h, d, p, dx, FA, AA, vd, vc, q, dxd, Fd, Hd, vw, ro, e, hs, HF, DF, n1, n2, ok, hq⟩ => ?_) (fun _ _ _ _ _ _ us hl => match us, hl with | [_, _], _ => rfl)
  subst e
  refine ⟨_, PSs.nox pss_in, ?_⟩
  suffices hB : B (cxOf CX0 P w K mg base N_House_set_day "House.set_day" (defScope s_House_set_day) (He.fAd K ("House", some "set_day")) cdv A outer s H Ex).nox H [.im (Adr.mk p), .im (Adr.mk q), .no] (defBody s_House_set_day) { nx := fun _ H' => Q .non H', rt := Q } from
    hB _ H (ent_at (R := .cons (Adr.mk p) (.cons (Adr.mk q) .nil)) (gs := [.im (Adr.mk p), .im (Adr.mk q)]) (n := 1) (ent_im (ent_im ent_nil)) (by rfl) ⟨_, _, rfl, rfl, _, _, rfl, rfl, rfl⟩)
  have S0 : HS K Hc H p h H := ⟨hs, KeepT.refl _, ⟨dx, FA, AA, vd, vc, HF⟩⟩
  have HF0 := HF.mono (cut_some hs)
  have hcp : Hc p = none := new_free HF.ins fun _ z => nomatch z
  refine b_fldM (G' := [.im (Adr.mk p), .im (Adr.mk q), .no]) (e_var 1) HF0.ins (.im _ (.im _ (.drop _ .nil))) T.c_House T.a_House_house_day (by show 9 < 1000; decide) (fun H0' hs => e_var 0) (fun v Hb sb rv => ?_)
  have rv : v = .ref q := rv
  subst rv
  rw [hf_putDay]
  have S1 := S0.mono sb
  have HF1 := HF.mono (cut_mono sb)
  have DF1 := DF.mono (cut_mono sb)
  have HF2 := HF1.setIns (h' := { h with day := some d }) (vd' := .ref q) rfl rfl ⟨q, dxd, Fd, Hd, vw, ro, rfl, n1, n2, DF1⟩ HF1.cry
  have S2 : HS K Hc H p { h with day := some d } (upd Hb p (.ins (He.ga K "House") dx (houFs h.hands h.t h.p h.next (.ref FA) (.ref AA) h.byDay (.ref q) vc))) := S1.upd HF1.ins (fun _ z => nomatch z) ⟨dx, FA, AA, _, vc, HF2⟩
  obtain ⟨kvs, hk1, hk2⟩ := DF1.fil
  have DF2 : DayF K d q dxd Fd Hd vw ro (upd (cut Hc Hb) p (.ins (He.ga K "House") dx (houFs h.hands h.t h.p h.next (.ref FA) (.ref AA) h.byDay (.ref q) vc))) := DF1.keep HF1.ins (fun _ z => nomatch z) (ne_of DF1.ins HF1.ins houFs_ne) (ne_of hk1 HF1.ins (fun z => nomatch z)) (ne_of DF1.lst HF1.ins (fun z => nomatch z)) fun z hz => ne_of (DF1.rows z hz) HF1.ins (fun z => nomatch z)
  rw [← cut_upd hcp] at HF2 DF2
  obtain ⟨B2, eB⟩ : ∃ B2, upd Hb p (.ins (He.ga K "House") dx (houFs h.hands h.t h.p h.next (.ref FA) (.ref AA) h.byDay (.ref q) vc)) = B2 := ⟨_, rfl⟩
  have HF2 : HouF K { h with day := some d } p dx FA AA (.ref q) vc (cut Hc B2) := by rw [← eB]; exact HF2
  rw [eB] at S2 DF2 ⊢
  have HF20 := HF2.mono (cut_some S2.s)
  have DF20 := DF2.mono (cut_some S2.s)
  obtain ⟨kvs2, hk3, hk4⟩ := DF20.fil
  refine b_set 2 (x := criesI h.p h.t d.files d.wishes) (e_call (ok_cries T) hr (h.p, h.t, ⟨d.files⟩, d.wishes) ⟨ok.mo, ok.ml, ok.mlo, ok.ln, ok.cr⟩ (ea_cons (E.ofOld (e_fldB HF20.ins T.c_House T.a_House_house_p hf_p (u := h.p) rfl (e_var 0))) (ea_cons (E.ofOld (e_fldB HF20.ins T.c_House T.a_House_house_t hf_t (u := h.t) rfl (e_var 0))) (ea_cons (E.ofOld (E.there (x := Dic.mk d.files) (e_fldA DF20.ins T.c_Day T.a_Day_day_files df_files (e_var 1)) (dicR hk3 hk4))) (ea_cons (E.ofOld (e_fldB DF20.ins T.c_Day T.a_Day_day_wishes df_wishes (u := d.wishes) DF20.wis (e_var 1))) ea_nil))))) ?_ sc_House_set_day.nd
  refine b_fldM (G' := [.im (Adr.mk p), .im (Adr.mk q), .im (criesI h.p h.t d.files d.wishes)]) (e_var 2) HF20.ins (.im _ (.im _ (.im _ .nil))) T.c_House T.a_House_house_cries (by show 9 < 1000; decide) (fun H0' hs => e_var 0) (fun v Hb3 sb3 rv => ?_)
  rw [hf_putCries]
  have S3 := S2.mono sb3
  have HF3 := HF2.mono (cut_mono sb3)
  have DF3 := DF2.mono (cut_mono sb3)
  have rv3 : r (criesI h.p h.t d.files d.wishes) v (cut Hc Hb3) := Im.keep (keep_cut S3.s) rv
  have HF4 := HF3.setIns (h' := { h with day := some d, cries := criesI h.p h.t d.files d.wishes }) (vc' := v) rfl rfl HF3.day rv3
  have S4 : HS K Hc H p { h with day := some d, cries := criesI h.p h.t d.files d.wishes } (upd Hb3 p (.ins (He.ga K "House") dx (houFs h.hands h.t h.p h.next (.ref FA) (.ref AA) h.byDay (.ref q) v))) := S3.upd HF3.ins (fun _ z => nomatch z) ⟨dx, FA, AA, _, v, HF4⟩
  obtain ⟨kvs5, hk5, _⟩ := DF3.fil
  have DF4 : DayF K d q dxd Fd Hd vw ro (upd (cut Hc Hb3) p (.ins (He.ga K "House") dx (houFs h.hands h.t h.p h.next (.ref FA) (.ref AA) h.byDay (.ref q) v))) := DF3.keep HF3.ins (fun _ z => nomatch z) (ne_of DF3.ins HF3.ins houFs_ne) (ne_of hk5 HF3.ins (fun z => nomatch z)) (ne_of DF3.lst HF3.ins (fun z => nomatch z)) fun z hz => ne_of (DF3.rows z hz) HF3.ins (fun z => nomatch z)
  rw [← cut_upd hcp] at HF4 DF4
  obtain ⟨B4, eB⟩ : ∃ B4, upd Hb3 p (.ins (He.ga K "House") dx (houFs h.hands h.t h.p h.next (.ref FA) (.ref AA) h.byDay (.ref q) v)) = B4 := ⟨_, rfl⟩
  have HF4 : HouF K { h with day := some d, cries := criesI h.p h.t d.files d.wishes } p dx FA AA (.ref q) v (cut Hc B4) := by rw [← eB]; exact HF4
  have eB' : upd Hb3 p (.ins (He.ga K "House") dx (houFs ({ h with day := some d } : Hou K).hands ({ h with day := some d } : Hou K).t ({ h with day := some d } : Hou K).p ({ h with day := some d } : Hou K).next (.ref FA) (.ref AA) ({ h with day := some d } : Hou K).byDay (.ref q) v)) = B4 := eB
  rw [eB] at S4 DF4
  rw [eB']
  have HF40 := HF4.mono (cut_some S4.s)
  have DF40 := DF4.mono (cut_some S4.s)
  refine b_ifR (et_gt (E.ofOld (e_fldB DF40.ins T.c_Day T.a_Day_day_spares df_spares (u := d.spares) rfl (e_var 1))) e_int) (fun hb => ?_) fun hb => ?_
  · refine b_fldM (G' := [.im (Adr.mk p), .im (Adr.mk q), .im (criesI h.p h.t d.files d.wishes)]) (u := withSpares h.p (criesI h.p h.t d.files d.wishes) d.spares) (e_call (ok_with_spares T) hr (h.p, criesI h.p h.t d.files d.wishes, d.spares) ⟨ok.p0, by show (List.map _ (madeLots h.t d.wishes)).length < 1000; rw [List.length_map]; exact ok.ln, ok.sp.1, ok.sp.2⟩ (ea_cons (E.ofOld (e_fldB HF40.ins T.c_House T.a_House_house_p hf_p (u := h.p) rfl (e_var 0))) (ea_cons (e_var 2) (ea_cons (E.ofOld (e_fldB DF40.ins T.c_Day T.a_Day_day_spares df_spares (u := d.spares) rfl (e_var 1))) ea_nil)))) HF40.ins (.im _ (.im _ (.im _ .nil))) T.c_House T.a_House_house_cries (by show 9 < 1000; decide) (fun H0' hs => e_var 0) (fun v5 Hb5 sb5 rv5 => ?_)
    rw [hf_putCries]
    have S5 := S4.mono sb5
    have HF5 := HF4.mono (cut_mono sb5)
    have rv6 : r (withSpares h.p (criesI h.p h.t d.files d.wishes) d.spares) v5 (cut Hc Hb5) := Im.keep (keep_cut S5.s) rv5
    have HF6 := HF5.setIns (h' := { h with day := some d, cries := withSpares h.p (criesI h.p h.t d.files d.wishes) d.spares }) (vc' := v5) rfl rfl HF5.day rv6
    have S6 : HS K Hc H p { h with day := some d, cries := withSpares h.p (criesI h.p h.t d.files d.wishes) d.spares } (upd Hb5 p (.ins (He.ga K "House") dx (houFs h.hands h.t h.p h.next (.ref FA) (.ref AA) h.byDay (.ref q) v5))) := S5.upd HF5.ins (fun _ z => nomatch z) ⟨dx, FA, AA, _, v5, HF6⟩
    refine b_go (b_nil fun σ H' a => ?_)
    have S7 := S6.mono a.same
    refine hq H' S7.s S7.k ?_
    have e : dayCries h.p h.t d = withSpares h.p (criesI h.p h.t d.files d.wishes) d.spares := if_pos hb
    rw [e]
    exact S7.a
  · refine b_nil fun σ H' a => ?_
    have S7 := S4.mono a.same
    refine hq H' S7.s S7.k ?_
    have e : dayCries h.p h.t d = criesI h.p h.t d.files d.wishes := if_neg (by rw [hb]; decide)
    rw [e]
    exact S7.a
end
end Lk

/-! LkH9 -/
set_option Elab.async false
set_option linter.all false
set_option maxRecDepth 100000
set_option maxHeartbeats 4000000
set_option autoImplicit false
/-! House.day -/
namespace Lk
open PySem PySem.Spec PyProof.Rows L2
open Ty (r)
section
variable {X : Cx} {H0 He Hc : Hp} {G G' : List Slot} {e a b c o tg i : Expr} {es : List Expr} {pos p p1 p2 apos : Pos} {D : Ends} {rest : List Stmt} {kws : List Keyword} {k : Bool}
/-- a dict comprehension set to a local name on its own row -/
theorem ps_setDcI {j : Nat} {y : Str} {py : Pos} {kx vx tgt iter : Expr} {tests : List Expr} {scp : Scope} {own : List (Str × Nat)} {cp sp : Pos} {wi : TI} {g : TG} {tt : TT} {tk tv : TE} (hc : X.calm = true) (hN : X.N.Nodup) (hy : X.N[j]? = some y) (hyl : X.env.scope.names.lookup y = some .local)
    (hsw : swapsWith (.DictComp kx vx [⟨tgt, iter, tests, 0⟩] scp cp) (some (.Name y py)) sp.line X.env = pure true) (hi : PI X tgt iter wi) (ok : BlkOk X.N X.env.scope scp own)
    (hg : ∀ (s : Shared) (H : Hp) (C : Addr) (cl : List (Str × Addr)) (fp : List Addr), PG (X.blk s H scp (compEnvC scp cl C X.env) fp) tgt g) (ht : ∀ (s : Shared) (H : Hp) (C : Addr) (cl : List (Str × Addr)) (fp : List Addr), PTs (X.blk s H scp (compEnvC scp cl C X.env) fp) tests tt)
    (hk : ∀ (s : Shared) (H : Hp) (C : Addr) (cl : List (Str × Addr)) (fp : List Addr), PE (X.blk s H scp (compEnvC scp cl C X.env) fp) kx tk)
    (hv : ∀ (s : Shared) (H : Hp) (C : Addr) (cl : List (Str × Addr)) (fp : List Addr), PE (X.blk s H scp (compEnvC scp cl C X.env) fp) vx tv) (hs : ∀ z, foldedSetIterable iter X.env z = pure z := by intro _; rfl) :
    PS X (.Assign [.Name y py] (.DictComp kx vx [⟨tgt, iter, tests, 0⟩] scp cp) sp) (tAsg (tDc wi g tt tk tv (own.map (·.2))) (gName j)) := ⟨fun pins st σ H Dd I hq => by
  rw [exec_Assign_Name_used _ _ _ _ hsw]
  refine wpAny_bind (wpAny_standAt (wpAny_bind ?_))
  have hq : tDc wi g tt tk tv (own.map (·.2)) σ H (fun z H1 => gName j z σ H1 Dd.nx) := hq
  refine wpAny_bind (thn (dc_core (Qf := fun _ s' => SP X pins Dd .next s') hc hN I hi ok hg ht hk hv hs hq fun q C s' m H' I' k hn f => ?_) fun _ s' z => wpAny_pure (wpAny_pure z))
  refine wpAny_assign_Name (store_ok2 (v := V.ref q) I' hN hy (.inl hyl) rfl (fun s2 I2 ⟨a, sb, ha⟩ => ?_) (.inr hyl))
  obtain ⟨f0, f1, f2, f3, f4, f5⟩ := f
  have ne : C ≠ a := by
    rcases ha with z | z
    · rw [z]; exact f1
    · exact fun w => f4 y a z w.symm
  exact ⟨m, hn.sameBut sb ne, fun h3 sb3 => ⟨_, H', I2.turned (t' := s2.toks) (fun b o hb w => (sb3.2 b hb).trans w) f0 f1 f3 f4 f5, k⟩⟩⟩
theorem dc_t {iter kx vx : Expr} {scope : Scope} {γ α : Type} [Im γ] [Im α] {l : List γ} {js : List Nat} {up : γ → List Slot → List Slot} {kf : γ → Int} {vf : γ → α} (own : List (Str × Nat)) (hN : X.N.Nodup) (hi : EI X H0 G tg iter l) (hlen : l.length < 100000)
    (hg : ∀ (s : Shared) (H : Hp) (C : Addr) (cl : List (Str × Addr)) (fp : List Addr), Tgt (X.blk s H scope (compEnvC scope cl C X.env) fp) tg js up)
    (hk : ∀ (s : Shared) (H : Hp) (C : Addr) (cl : List (Str × Addr)) (fp : List Addr) (H0' : Hp), Same H0 H0' → ∀ x, x ∈ l → E (X.blk s H scope (compEnvC scope cl C X.env) fp) H0' (up x (wipeG G (own.map (·.2)))) kx (Val (kf x)))
    (hv : ∀ (s : Shared) (H : Hp) (C : Addr) (cl : List (Str × Addr)) (fp : List Addr) (H0' : Hp), Same H0 H0' → ∀ x, x ∈ l → E (X.blk s H scope (compEnvC scope cl C X.env) fp) H0' (up x (wipeG G (own.map (·.2)))) vx (Val (vf x)))
    (ok : blkC X.N X.env.scope scope own = true := by kernel_rfl) (hj : ∀ j ∈ js, j ∈ own.map (·.2) := by decide) (hc : X.calm = true := by rfl) (hs : ∀ x, foldedSetIterable iter X.env x = pure x := by intro _; rfl) : ∀ σ H (Q : VK), At H0 G σ H → (∀ v H', Same H H' → (New (Dic.mk (l.foldl (fun a x => dput a (kf x) (vf x)) []))).p H v H' → Q v H') → tDc (tI X tg iter) (gB X scope tg) tYes (eB X scope kx) (eB X scope vx) (own.map (·.2)) σ H Q := fun σ H Q h0 q => by
  refine (hi σ H _ h0 fun J H1 s1 W => ?_)
  intro Dl hD
  have h1 := h0.reb s1
  obtain ⟨Gd, Y, w, wg, wy⟩ := W
  have sb := reb_le h0.same s1
  refine walk_any (STEP := fun x H' Nx => gB X scope tg x (wipe σ (own.map (·.2))) H' fun σ2 H2 => wipe σ2 (own.map (·.2)) = wipe σ (own.map (·.2)) ∧ tYes σ2 H2 fun b H3 =>
    if b = true then eB X scope kx σ2 H3 fun y H4 => eB X scope vx σ2 H4 fun z H5 => ∃ kvs k, y = kV k ∧ H5 Dl = some (.dK kvs) ∧ kvs.length < sizeLine ∧ Nx (upd H5 Dl (.dK (putK kvs k z))) else Nx H3)
    w (fun i H => Same H1 H ∧ ∃ kvs, H Dl = some (.dK kvs) ∧ kvs.length ≤ i ∧ KVs ((l.take i).foldl (fun a x => dput a (kf x) (vf x)) []) kvs H) ⟨Same.new hD, [], upd_same, Nat.zero_le _, .nil⟩ (fun i H _ q => wg H (Same.trans sb q.1)) (fun i v H H2 hil ⟨q1, kvs, q2, q3, q4⟩ yv => ?_) fun H ⟨q1, kvs, q2, _, q4⟩ => ?_
  · obtain ⟨s2, x, e1, e2⟩ := wy i H v H2 (Same.trans sb q1) yv hil
    have tk : l.take (i + 1) = l.take i ++ [x] := by rw [List.take_succ, e1]; rfl
    intro s H' C cl fp
    refine hg s H' C cl fp x v _ _ _ H2 _ e2 ((h1.ext (Same.trans q1 s2)).wipe (own.map (·.2))) fun σ2 a3 hw => ⟨by rw [hw _ hj, wipe_wipe], ?_⟩
    unfold tYes
    refine iteT ?_
    intro s' H'' C' cl' fp'
    refine hk s' H'' C' cl' fp' _ reb_old x (List.mem_of_getElem? e1) σ2 H2 _ a3 fun yk H4 s4 p4 => ?_
    intro s' H'' C' cl' fp'
    refine hv s' H'' C' cl' fp' _ reb_old x (List.mem_of_getElem? e1) σ2 H4 _ (a3.ext s4) fun yv H5 s5 p5 => ?_
    have e4 : yk = .int (kf x) := p4
    have sH5 := Same.trans s2 (Same.trans s4 s5)
    have kt := kt_dK (o := .dK (putK kvs (.inl (kf x)) yv)) (sH5 _ _ q2)
    refine ⟨kvs, .inl (kf x), e4, sH5 _ _ q2, ?_, fun b o hb => ?_, putK kvs (.inl (kf x)) yv, upd_same, ?_, ?_⟩
    · have : sizeLine = 16777216 := by decide
      omega
    · rw [upd_ne (ne_of_none hb hD)]
      exact sH5 _ _ (q1 b o hb)
    · unfold putK
      split
      · rw [List.length_map]; omega
      · rw [List.length_append, List.length_singleton]; omega
    · rw [tk, List.foldl_append]
      exact KVs.put (KVs.keep kt (KVs.mono sH5 q4)) (Im.keep kt p5)
  · rw [List.take_length] at q4
    have sp := Same.trans s1 q1
    exact q _ H sp ⟨Dl, kvs, rfl, cut_new (Same.free s1 hD) q2, KVs.keep (keep_cut sp) q4⟩
theorem b_dcA {iter kx vx : Expr} {scope : Scope} {γ α : Type} [Im γ] [Im α] {l : List γ} {js : List Nat} {up : γ → List Slot → List Slot} {kf : γ → Int} {vf : γ → α} {n : Str} {p1 : Pos} (i : Nat) (own : List (Str × Nat)) (hN : X.N.Nodup) (hi : EI X H0 G tg iter l) (hlen : l.length < 100000)
    (hg : ∀ (s : Shared) (H : Hp) (C : Addr) (cl : List (Str × Addr)) (fp : List Addr), Tgt (X.blk s H scope (compEnvC scope cl C X.env) fp) tg js up)
    (hk : ∀ (s : Shared) (H : Hp) (C : Addr) (cl : List (Str × Addr)) (fp : List Addr) (H0' : Hp), Same H0 H0' → ∀ x, x ∈ l → E (X.blk s H scope (compEnvC scope cl C X.env) fp) H0' (up x (wipeG G (own.map (·.2)))) kx (Val (kf x)))
    (hv : ∀ (s : Shared) (H : Hp) (C : Addr) (cl : List (Str × Addr)) (fp : List Addr) (H0' : Hp), Same H0 H0' → ∀ x, x ∈ l → E (X.blk s H scope (compEnvC scope cl C X.env) fp) H0' (up x (wipeG G (own.map (·.2)))) vx (Val (vf x)))
    (hr : ∀ H0' q kvs, Same H0 H0' → H0 q = none → H0' q = some (.dK kvs) → KVs (l.foldl (fun a x => dput a (kf x) (vf x)) []) kvs H0' → B X H0' (G.set i (.im (Adr.mk q))) rest D)
    (ok : blkC X.N X.env.scope scope own = true := by kernel_rfl) (hj : ∀ j ∈ js, j ∈ own.map (·.2) := by decide) (hc : X.calm = true := by rfl) (hs : ∀ x, foldedSetIterable iter X.env x = pure x := by intro _; rfl) (hy : X.N[i]? = some n := by rfl) (hyl : X.env.scope.names.lookup n = some .local := by rfl) (hsw : swapsWith (.DictComp kx vx [⟨tg, iter, [], 0⟩] scope p1) (some (.Name n p)) pos.line X.env = pure true := by rfl) : B X H0 G (.Assign [.Name n p] (.DictComp kx vx [⟨tg, iter, [], 0⟩] scope p1) pos :: rest) D := B.seq fun σ H h0 =>
  ps_out (ps_setDcI (g := gB X scope tg) (tk := eB X scope kx) (tv := eB X scope vx) hc hN hy hyl hsw pi_in (blkOk_by ok)
    (fun s H C cl fp => ⟨fun pins s1 σ1 H1 v u Q I rv h => h s H C cl fp pins s1 u I rv⟩) (fun _ _ _ _ _ => pts_nil) (fun s H C cl fp => ⟨fun pins s1 σ1 H1 Q I h => h s H C cl fp pins s1 I⟩) (fun s H C cl fp => ⟨fun pins s1 σ1 H1 Q I h => h s H C cl fp pins s1 I⟩) hs) (dc_t own hN hi hlen hg hk hv ok hj hc hs σ H _ h0 fun v H1 s1 ⟨q, kvs, ev, e1, e2⟩ => by
    subst ev
    have nq := new_free e1 fun _ z => nomatch z
    exact hr (reb H0 H H1) q kvs reb_old (Same.free h0.same nq) (reb_cut h0.same _ _ e1) (KVs.mono (reb_cut h0.same) e2) _ H1 ((h0.reb s1).set (s := .im (Adr.mk q)) rfl fun z => z))
/-- [[] for x in range(n)]: rows apart from one another -/
theorem rows_t {iter : Expr} {scope : Scope} {l : List Int} {js : List Nat} {up : Int → List Slot → List Slot} (own : List (Str × Nat)) {p1 : Pos} (hN : X.N.Nodup) (hi : EI X H0 G tg iter l) (hlen : l.length < 100000)
    (hg : ∀ (s : Shared) (H : Hp) (C : Addr) (cl : List (Str × Addr)) (fp : List Addr), Tgt (X.blk s H scope (compEnvC scope cl C X.env) fp) tg js up) (ok : blkC X.N X.env.scope scope own = true := by kernel_rfl) (hj : ∀ j ∈ js, j ∈ own.map (·.2) := by decide) (hc : X.calm = true := by rfl) (hs : ∀ x, foldedSetIterable iter X.env x = pure x := by intro _; rfl) :
    ∀ σ H (Q : VK), At H0 G σ H → (∀ (q : Addr) (qs : List Addr) (H' : Hp), Same H H' → H q = none → H' q = some (.lst (qs.map V.ref)) → qs.length = l.length → qs.Nodup → (∀ z ∈ qs, H z = none ∧ H' z = some (.lst [])) → Q (.ref q) H') → tE X (.ListComp (.List [] p1) [⟨tg, iter, [], 0⟩] scope pos) σ H Q := fun σ H Q h0 q => by
  refine pe_out (pe_lc (g := gB X scope tg) (te := eB X scope (.List [] p1)) hc hN pi_in (blkOk_by ok) (fun s H C cl fp => ⟨fun pins s1 σ1 H1 v u Q I rv h => h s H C cl fp pins s1 u I rv⟩) (fun _ _ _ _ _ => pts_nil) (fun s H C cl fp => ⟨fun pins s1 σ1 H1 Q I h => h s H C cl fp pins s1 I⟩) hs) (hi σ H _ h0 fun J H1 s1 W => ?_)
  intro Dl hD
  have h1 := h0.reb s1
  obtain ⟨Gd, Y, w, wg, wy⟩ := W
  have sb := reb_le h0.same s1
  refine walk_any (STEP := fun x H' Nx => gB X scope tg x (wipe σ (own.map (·.2))) H' fun σ2 H2 => wipe σ2 (own.map (·.2)) = wipe σ (own.map (·.2)) ∧ tYes σ2 H2 fun b H3 =>
    if b = true then eB X scope (.List [] p1) σ2 H3 fun y H4 => ∃ acc, H4 Dl = some (.lst acc) ∧ acc.length < sizeLine ∧ Nx (upd H4 Dl (.lst (acc ++ [y]))) else Nx H3)
    w (fun i H => Same H1 H ∧ ∃ qs : List Addr, H Dl = some (.lst (qs.map V.ref)) ∧ qs.length = i ∧ qs.Nodup ∧ ∀ z ∈ qs, H1 z = none ∧ z ≠ Dl ∧ H z = some (.lst [])) ⟨Same.new hD, [], upd_same, rfl, List.nodup_nil, fun z hz => nomatch hz⟩ (fun i H _ q => wg H (Same.trans sb q.1)) (fun i v H H2 hil ⟨q1, qs, q2, q3, q4, q5⟩ yv => ?_) fun H ⟨q1, qs, q2, q3, q4, q5⟩ => ?_
  · obtain ⟨s2, x, e1, e2⟩ := wy i H v H2 (Same.trans sb q1) yv hil
    intro s H' C cl fp
    refine hg s H' C cl fp x v _ _ _ H2 _ e2 ((h1.ext (Same.trans q1 s2)).wipe (own.map (·.2))) fun σ2 a3 hw => ⟨by rw [hw _ hj, wipe_wipe], ?_⟩
    unfold tYes
    refine iteT ?_
    intro s' H'' C' cl' fp'
    refine pe_out (pe_lst pa_nil) ⟨Nat.zero_le _, fun m hm => ⟨qs.map V.ref, ?_, ?_, ?_, qs ++ [m], ?_, ?_, ?_, fun z hz => ?_⟩⟩
    · have nd : Dl ≠ m := fun z => by subst z; rw [s2 _ _ q2] at hm; cases hm
      rw [upd_ne nd]; exact s2 _ _ q2
    · rw [List.length_map, q3]
      have : sizeLine = 16777216 := by decide
      omega
    · intro b o e
      rw [upd_ne (ne_of_none e hD)]
      have := Same.trans q1 s2 b o e
      rw [upd_ne (ne_of_none this hm)]
      exact this
    · rw [upd_same, List.map_append]; rfl
    · rw [List.length_append, q3]; rfl
    · rw [List.nodup_append]
      refine ⟨q4, by simp, fun a ha b hb e => ?_⟩
      rw [List.mem_singleton.mp hb] at e
      subst e
      have := s2 _ _ (q5 _ ha).2.2
      rw [hm] at this; cases this
    · have nd : m ≠ Dl := fun z => by subst z; rw [s2 _ _ q2] at hm; cases hm
      rcases List.mem_append.mp hz with hz | hz
      · obtain ⟨z1, z2, z3⟩ := q5 z hz
        have z4 := s2 _ _ z3
        refine ⟨z1, z2, ?_⟩
        rw [upd_ne z2, upd_ne (ne_of_none z4 hm)]
        exact z4
      · rw [List.mem_singleton.mp hz]
        refine ⟨Same.free (Same.trans q1 s2) hm, nd, ?_⟩
        rw [upd_ne nd, upd_same]
  · exact q Dl qs H (Same.trans s1 q1) (Same.free s1 hD) q2 q3 q4 fun z hz => ⟨Same.free s1 (q5 z hz).1, (q5 z hz).2.2⟩
end
section
variable {P : Program} {w : World} {K : PySem.W.Frag} {mg : Str → Option Value} {base : Heap}
def dayNew (h : Hou K) (wishes : List (Option Int)) (spares : Int) : DayS := ⟨wishes, spares, (wishedI wishes).foldl (fun a m => dput a m ((dget h.files m).getD [])) [], List.replicate h.hands.toNat []⟩
structure DyOk (h : Hou K) (wishes : List (Option Int)) (spares : Int) : Prop where
  bd : h.byDay = false
  fl : h.files.length < 64
  wl : (wishes.length : Int) = h.hands
  wn : wishes.length < 60
  wi : ∀ u, some u ∈ wishes → (0 : Int) ≤ u ∧ u ∈ isort (h.files.map (·.1))
  mo : madeOk h.t wishes
  sp : 0 ≤ spares ∧ spares < 1000
  sq : spares = 0 ∨ madeI h.t wishes + spares ≤ h.p
  fi : ∀ m ∈ wishedI wishes, (dget h.files m).isSome = true
  sd : SdOk h.p h.t (dayNew h wishes spares)
def dayH (h : Hou K) (wishes : List (Option Int)) (spares : Int) : Hou K := { h with day := some (dayNew h wishes spares), cries := dayCries h.p h.t (dayNew h wishes spares), byDay := true }
def spDay (K : PySem.W.Frag) : Sp := spH K (β := Unit) (fun i : List (Option Int) × Int => .cons i.1 (.cons i.2 .nil)) (fun i h => DyOk h i.1 i.2) (fun i h => dayH h i.1 i.2) (fun _ _ => ())
theorem e_dayNew {X : Cx} {H0 Hc : Hp} {G : List Slot} {p1 p2 pos p : Pos} {scope : Scope} {own : List (Str × Nat)} {js : List Nat} {up : Int → List Slot → List Slot} {tg iter a b c : Expr} {K : PySem.W.Frag} {mg : Str → Option Value} (T : Tx K mg) (hK : X.K = K) (hmg : X.mg = mg) {m : Nat} (hr : Room m X.A) (hk : 2 ≤ m) {wishes : List (Option Int)} {spares : Int} {Fd : Addr} {kvs : List (Key × V)} {fl : List (Int × List Int)} {n : Nat} (hs : Same Hc H0) (hF : cut Hc H0 Fd = some (.dK kvs)) (hKV : KVs fl kvs (cut Hc H0))
    (ha : E X H0 G a (Val wishes)) (hb : E X H0 G b (Val spares)) (hc : E X H0 G c (Val (Adr.mk Fd))) (hN : X.N.Nodup) (hi : EI X H0 G tg iter (rng 0 n)) (hn : n < 100000)
    (hg : ∀ (s : Shared) (H : Hp) (C : Addr) (cl : List (Str × Addr)) (fp : List Addr), Tgt (X.blk s H scope (compEnvC scope cl C X.env) fp) tg js up) (ok : blkC X.N X.env.scope scope own = true) (hj : ∀ j ∈ js, j ∈ own.map (·.2)) (hcl : X.calm = true) (hfs : ∀ x, foldedSetIterable iter X.env x = pure x) (hgl : Gl X "Day")
    (hst : starEach [a, b, c, .ListComp (.List [] p1) [⟨tg, iter, [], 0⟩] scope p2] X.env = (false, eval a X.env) :: starEach [b, c, .ListComp (.List [] p1) [⟨tg, iter, [], 0⟩] scope p2] X.env) (hst2 : starEach [b, c, .ListComp (.List [] p1) [⟨tg, iter, [], 0⟩] scope p2] X.env = (false, eval b X.env) :: starEach [c, .ListComp (.List [] p1) [⟨tg, iter, [], 0⟩] scope p2] X.env)
    (hst3 : starEach [c, .ListComp (.List [] p1) [⟨tg, iter, [], 0⟩] scope p2] X.env = (false, eval c X.env) :: starEach [.ListComp (.List [] p1) [⟨tg, iter, [], 0⟩] scope p2] X.env) (hst4 : starEach [.ListComp (.List [] p1) [⟨tg, iter, [], 0⟩] scope p2] X.env = (false, eval (.ListComp (.List [] p1) [⟨tg, iter, [], 0⟩] scope p2) X.env) :: starEach [] X.env) (hpl : (backTo pos (starEach [b, c, .ListComp (.List [] p1) [⟨tg, iter, [], 0⟩] scope p2] X.env)).any (·.1) = false) :
    ∀ σ H (Q : VK), At H0 G σ H → (∀ x H', Same H H' → (∃ dxd Hd vw ro, DayF K ⟨wishes, spares, fl, List.replicate n []⟩ x dxd Fd Hd vw ro (cut Hc H')) → Q (.ref x) H') → tE X (.Call (.Name "Day" p) [a, b, c, .ListComp (.List [] p1) [⟨tg, iter, [], 0⟩] scope p2] [] pos) σ H Q := fun σ H Q h0 q => by
  subst hK hmg
  obtain ⟨fd, F, hb'⟩ := ok_Day_init (P := X.prog) (w := X.w) (base := X.base) T
  refine pe_out (pe_make T.k_Day F (hr.mono hk) hgl T.g_Day hb' .nil pass0 (pa_cons pe_in (pa_cons pe_in (pa_cons pe_in (pa_cons pe_in pa_nil hst4) hst3) hst2) hst) (by decide) hst hpl) (ha σ H _ h0 fun v1 H1 s1 q1 => hb σ H1 _ (h0.ext s1) fun v2 H2 s2 q2 => hc σ H2 _ ((h0.ext s1).ext s2) fun v3 H3 s3 q3 => rows_t own hN hi (by rw [rng_len]; exact hn) hg ok hj hcl hfs σ H3 _ (((h0.ext s1).ext s2).ext s3) fun Hd qs H4 s4 n4 d4 l4 nd4 r4 => fun x dx hz hdx ne => ?_)
  have q2 : v2 = .int spares := q2
  have q3 : v3 = .ref Fd := q3
  subst q2 q3
  have sn : Same H4 (upd (upd H4 dx (.own x)) x (.ins (He.ga X.K "Day") dx [])) := fun c o e => by
    rw [upd_ne (ne_of_none e hz), upd_ne (ne_of_none e hdx)]; exact e
  have s14 := Same.trans (Same.trans (Same.trans s1 s2) s3) s4
  refine ⟨H4, x, dx, v1, .ref Fd, .ref Hd, spares, rfl, sn, upd_same, hz, fun H' k1 k2 => ⟨rfl, q x H' (Same.trans s14 k1) ⟨dx, Hd, v1, qs.map fun z => RowO.mk z [], ?_⟩⟩⟩
  have sHc : Same Hc H := Same.trans hs h0.same
  have s3c : Same Hc H3 := Same.trans sHc (Same.trans (Same.trans s1 s2) s3)
  have s4c : Same Hc H4 := Same.trans s3c s4
  have s5c : Same Hc H' := Same.trans s4c k1
  have s0 : Same H0 H' := Same.trans h0.same (Same.trans s14 k1)
  refine ⟨cut_new (Same.free s4c hz) k2, Im.keep (keep_cut s5c) (Ty.mono (Same.trans (Same.trans (Same.trans s2 s3) s4) k1) q1), ⟨kvs, cut_mono s0 _ _ hF, hKV.mono (cut_mono s0)⟩, ?_, fun z hz => ?_, ?_, ?_⟩
  · rw [List.map_map]
    exact cut_new (Same.free s3c n4) (k1 _ _ d4)
  · obtain ⟨y, hy, rfl⟩ := List.mem_map.mp hz
    obtain ⟨y1, y2⟩ := r4 y hy
    exact cut_new (Same.free s3c y1) (k1 _ _ y2)
  · rw [List.map_map]
    show qs.map (fun _ => []) = List.replicate n []
    rw [rng_len] at l4
    rw [← l4, List.map_const']
  · rw [List.map_map]
    have : (qs.map ((fun x : RowO => x.a) ∘ fun z => RowO.mk z [])) = qs := by
      show qs.map (fun z => z) = qs
      exact List.map_id' qs
    rw [this]
    exact nd4
end
end Lk

/-! LkI1 -/
set_option Elab.async false
set_option linter.all false
set_option maxRecDepth 100000
set_option maxHeartbeats 4000000
set_option autoImplicit false
/-! House.day -/
namespace Lk
open PySem PySem.Spec PyProof.Rows L2
open Ty (r)
section
variable {P : Program} {w : World} {K : PySem.W.Frag} {mg : Str → Option Value} {base : Heap}
theorem fn_House_day (T : Tx K mg) : ∃ fd, FnOk P w K mg base CX0 7 (He.fAd K ("House", some "day")) fd ["self", "wishes", "spares"] (spDay K) ∧ FunD K "day" "House.day" (defArgs s_House_day) (defBody s_House_day) (defScope s_House_day) [] [("spares", .int 0)] (He.fAd K ("House", some "day")) fd := by
  obtain ⟨fd, F⟩ := T.f_House_day
  refine ⟨fd, ?_, F⟩
  refine hm_ok (fun i : List (Option Int) × Int => [.im i.1, .im i.2]) 3 F sc_House_day (fun i => ent_im (ent_im ent_nil)) (fun _ => rfl) (fun _ => rfl) fun cdv A outer s H Ex i Hc h p hr hp hs hh => ?_
  obtain ⟨wishes, spares⟩ := i
  have hp : DyOk h wishes spares := hp
  have hh0 := hh.mono (cut_some hs)
  have S0 : HS K Hc H p h H := ⟨hs, KeepT.refl _, hh⟩
  obtain ⟨dx, FA, AA, vd, vc, HF⟩ := hh
  have HF0 := HF.mono (cut_some hs)
  obtain ⟨kvs, hk1, hk2⟩ := HF.fil
  have hk0 := cut_some hs _ _ hk1
  refine b_drop (e_meth0 (ok_House_refuse_by_day T) hr h hp.bd (hou_no "refuse_by_day" (fun _ _ _ _ _ _ _ _ _ => by rfl) h) (E.ofOld (E.there (x := h) (e_var 0) ⟨p, rfl, hh0⟩))) ?_
  refine b_ifN (et_not (et_val (e_call (ok_is_wishes T) hr (h.hands, isort (h.files.map (·.1)), wishes) ⟨hp.wl, by have := hp.wn; show wishes.length < 1000; omega, hp.wi⟩ (ea_cons (E.ofOld (e_fldB HF0.ins T.c_House T.a_House_house_hands hf_hands (u := h.hands) rfl (e_var 0))) (ea_cons (e_meth0 (ok_House_files T) hr h hp.fl (hou_no "files" (fun _ _ _ _ _ _ _ _ _ => by rfl) h) (E.ofOld (E.there (x := h) (e_var 0) ⟨p, rfl, hh0⟩))) (ea_cons (e_var 1) ea_nil)))))) rfl ?_
  have hsp := hp.sp
  refine b_ifN (et_not (et_val (e_call (ok_may_be_spares T) hr (h.p, h.t, wishes, spares) ⟨hp.mo, hsp.1, by show spares ≤ 1000; omega, hp.sq⟩ (ea_cons (E.ofOld (e_fldB HF0.ins T.c_House T.a_House_house_p hf_p (u := h.p) rfl (e_var 0))) (ea_cons (E.ofOld (e_fldB HF0.ins T.c_House T.a_House_house_t hf_t (u := h.t) rfl (e_var 0))) (ea_cons (e_var 1) (ea_cons (e_var 2) ea_nil))))))) rfl ?_
  refine b_dcA (kf := fun m : Int => m) (vf := fun m : Int => (dget h.files m).getD []) 3 [("number", 4)] sc_House_day.nd (ei_tup (e_call (ok_wished T) hr wishes hp.wn (ea_cons (e_var 1) ea_nil))) (by have h1 := wished_len (wishes := wishes); have := hp.wn; omega) (fun s H C cl fp => tgt_name 4 sc_House_day.nd) (fun s H C cl fp H0' hs x hx => e_var 4) (fun s H C cl fp H0' hs' x hx => ?_) (fun H1 Fd kd s1 nF dF kF => ?_)
  · have HF1 := HF0.mono hs'
    obtain ⟨k1, k2, k3⟩ := HF1.fil
    exact e_getK hr (some_getD (d := []) (hp.fi x hx)) (E.ofOld (E.there (x := Dic.mk h.files) (e_fldA HF1.ins T.c_House T.a_House_house_files hf_files (e_var 0)) (dicR k2 k3))) (e_var 4)
  have S1 := S0.mono s1
  have HF1 := HF.mono (cut_mono s1)
  have HF10 := HF1.mono (cut_some S1.s)
  have cF : Hc Fd = none := Same.free hs nF
  have n1 : Fd ≠ FA := fun z => by subst z; rw [hk0] at nF; cases nF
  obtain ⟨ka, ka1, _⟩ := HF0.awa
  have n2 : Fd ≠ AA := fun z => by subst z; rw [ka1] at nF; cases nF
  have hF := cut_new cF dF
  have hKV : KVs (dayNew h wishes spares).files kd (cut Hc H1) := KVs.keep (keep_cut S1.s) kF
  have hands0 : 0 ≤ h.hands ∧ h.hands < 60 := by have := hp.wl; have := hp.wn; omega
  refine b_callM (R := ⟨fun vs H' => ∃ x dxd Hd vw ro, vs = [V.ref x] ∧ DayF K (dayNew h wishes spares) x dxd Fd Hd vw ro (cut Hc H'), fun sm ⟨x, dxd, Hd, vw, ro, e, y⟩ => ⟨x, dxd, Hd, vw, ro, e, y.mono (cut_mono sm)⟩⟩) (ok_House_set_day T) hr (e_var 0) HF10.ins (by rfl) (fun σ Hx Q hx q => pa_out (pa_cons pe_in pa_nil) (e_dayNew (own := [("hand", 5)]) (n := h.hands.toNat) (wishes := wishes) (spares := spares) T rfl rfl hr (by decide) S1.s hF hKV (e_var 1) (e_var 2) (e_var 3) sc_House_day.nd (ei_rng1 T.m_range (E.ofOld (e_fldB HF10.ins T.c_House T.a_House_house_hands hf_hands (u := h.hands) rfl (e_var 0))) (by omega)) (by omega) (fun s H C cl fp => tgt_name 5 sc_House_day.nd) (by kernel_rfl) (by decide) rfl (by intro _; rfl) (by rfl) (by rfl) (by rfl) (by rfl) (by rfl) (by rfl) σ Hx _ hx fun x H' sx ⟨dxd, Hd, vw, ro, y⟩ => q _ H' sx ⟨x, dxd, Hd, vw, ro, rfl, y⟩)) (fun σ H2 vs a2 ⟨x, dxd, Hd, vw, ro, ev, DF⟩ => ?_)
  subst ev
  have S2 := S1.mono a2.same
  refine ⟨Hc, h, dayNew h wishes spares, p, dx, FA, AA, vd, vc, x, dxd, Fd, Hd, vw, ro, rfl, S2.s, HF1.mono (cut_mono a2.same), DF, n1, n2, hp.sd, fun H3 t1 t2 t3 => ?_⟩
  have a3 : At H3 [.im (Adr.mk p), .no, .no, .no, .no, .no] σ H3 := At.flat (a2.sub (Sub.of [1, 2, 3])) (.im _ (.no (.no (.no (.no (.no .nil)))))) (Same.refl H3)
  refine (show B _ H3 [.im (Adr.mk p), .no, .no, .no, .no, .no] _ _ from ?_) σ H3 a3
  have S3 : HS K Hc H p { h with day := some (dayNew h wishes spares), cries := dayCries h.p h.t (dayNew h wishes spares) } H3 := ⟨t1, KeepT.trans (KeepT.trans (KeepT.refl _) (KeepT.trans S2.k (KeepT.refl _))) t2, t3⟩
  obtain ⟨dx', FA', AA', vd', vc', HF3⟩ := t3
  have HF30 := HF3.mono (cut_some t1)
  refine b_fldM (G' := [.im (Adr.mk p), .no, .no, .no, .no, .no]) (e_bl (i := true)) HF30.ins (.im _ (.drop _ (.drop _ (.drop _ (.drop _ (.drop _ .nil)))))) T.c_House T.a_House_house_by_day (by show 9 < 1000; decide) (fun H0' hs => e_var 0) (fun v Hb sb rv => ?_)
  have rv : v = .bl true := rv
  subst rv
  rw [hf_putByDay]
  have S4 := S3.mono sb
  have HF4 := HF3.mono (cut_mono sb)
  have HF5 := HF4.setIns (h' := dayH h wishes spares) rfl rfl HF4.day HF4.cry
  have S5 : HS K Hc H p (dayH h wishes spares) (upd Hb p (.ins (He.ga K "House") dx' (houFs h.hands h.t h.p h.next (.ref FA') (.ref AA') true vd' vc'))) := S4.upd HF4.ins (fun _ z => nomatch z) ⟨dx', FA', AA', vd', vc', HF5⟩
  exact b_endM S5
end
end Lk

/-! LkI2 -/
set_option Elab.async false
set_option linter.all false
set_option maxRecDepth 100000
set_option maxHeartbeats 4000000
set_option autoImplicit false
/-! The law's own helpers without a pot. -/
namespace Lk
open PySem PySem.Spec PyProof.Rows L2
open Ty (r)
section
variable {X : Cx} {H0 : Hp} {G : List Slot} {a b : Expr} {pos : Pos}
theorem inV_opt {u : Int} {l : List (Option Int)} : inV (.int u) (l.map vO) = decide (some u ∈ l) := by
  unfold inV
  induction l with
  | nil => rfl
  | cons z l ih =>
    rw [List.map_cons, List.any_cons, ih]
    cases z with
    | none =>
      show (false || _) = _
      rw [Bool.false_or]
      by_cases h : some u ∈ l <;> simp [h]
    | some w =>
      show ((w == u) || _) = _
      by_cases h : w = u
      · subst h; simp
      · have h' : ¬ u = w := fun q => h q.symm
        by_cases h2 : some u ∈ l <;> simp [h, h', h2]
theorem et_niTO {u : Int} {l : List (Option Int)} (ha : E X H0 G a (Val u)) (hb : E X H0 G b (Val l)) (hm : behindInMarks .NotIn b = false := by rfl) : ET X H0 G (.Compare a [.NotIn] [b] pos) (!decide (some u ∈ l)) := et_cmp (x := u) (y := l) op_notIn_seq (fun v w H Q h1 ⟨q, xs, b1, b2, b3⟩ k => by
  have h1 : v = .int u := h1
  have h3 := A2.opts b3
  subst h1 h3
  exact ⟨q, _, b1, .inr (.inl (.inl b2)), rfl, flat_opts, by rw [if_pos rfl, inV_opt]; exact k H (Same.refl H)⟩) ha hb hm
theorem At.setOwnV {H : Hp} {σ : L2.St} {s : Slot} {v : V} {j : Nat} (h : At H0 G σ H) (hs : s.ok H0 v H) (hne : ∀ (k : Nat) (t : Slot), k ≠ j → G[k]? = some t → t.isOwn → σ[k]? ≠ some (some v)) : At H0 (G.set j s) (σ.set j (some v)) H := by
  refine ⟨by rw [List.length_set, List.length_set]; exact h.len, fun i t e => ?_, fun i k t u z e1 e2 o1 o2 q1 q2 => ?_, h.same⟩
  · rw [List.getElem?_set] at e
    by_cases hj : j = i
    · subst hj
      rw [if_pos rfl] at e
      split at e
      · cases e
        rename_i hl
        exact ⟨some v, by rw [List.getElem?_set_self (by rw [h.len]; exact hl)], Slot.at_some hs⟩
      · cases e
    · rw [if_neg hj] at e
      obtain ⟨o, f1, f2⟩ := h.at_ i t e
      exact ⟨o, by rw [List.getElem?_set_ne hj]; exact f1, f2⟩
  · by_cases ni : j = i
    · by_cases nk : j = k
      · rw [← ni, ← nk]
      · exfalso
        subst ni
        rw [List.getElem?_set_ne nk] at e2 q2
        have jl : j < σ.length := by
          rw [List.getElem?_set] at q1
          rw [if_pos rfl] at q1
          split at q1
          · assumption
          · cases q1
        rw [List.getElem?_set_self jl] at q1
        cases q1
        exact hne k u (fun w => nk w.symm) e2 o2 q2
    · by_cases nk : j = k
      · exfalso
        subst nk
        rw [List.getElem?_set_ne ni] at e1 q1
        have jl : j < σ.length := by
          rw [List.getElem?_set] at q2
          rw [if_pos rfl] at q2
          split at q2
          · assumption
          · cases q2
        rw [List.getElem?_set_self jl] at q2
        cases q2
        exact hne i t (fun w => ni w.symm) e1 o1 q1
      · rw [List.getElem?_set_ne ni] at e1 q1
        rw [List.getElem?_set_ne nk] at e2 q2
        exact h.apart i k t u z e1 e2 o1 o2 q1 q2
/-- x = y, y's list goes over to x -/
theorem b_mv (i j : Nat) {α : Type} [Im α] {l : List α} {n m : Str} {p p' : Pos} {rest : List Stmt} {D : Ends} (hr : B X H0 ((G.set j .no).set i (.own l)) rest D) (hN : X.N.Nodup) (hG : G[j]? = some (.own l) := by rfl) (hi : X.N[i]? = some n := by rfl) (hm : X.N[j]? = some m := by rfl) (hx : Loc X.env.scope n := by first | exact Or.inl rfl | exact Or.inr rfl) (hv : Vis X.env.scope m := by first | exact Or.inl rfl | exact Or.inr (Or.inl rfl) | exact Or.inr (Or.inr rfl))
    (hd : (m == ("__debug__" : Str)) = false := by decide) (hcd : (m == ("__classdict__" : Str)) = false := by decide) (hs : swapsWith (.Name m p) (some (.Name n p')) pos.line X.env = pure false := by rfl) (hf : X.fn n = true ∨ X.env.scope.names.lookup n = some .local := by first | exact .inl rfl | exact .inr rfl) :
    B X H0 G (.Assign [.Name n p'] (.Name m p) pos :: rest) D := B.seq fun σ H h0 => ps_out (ps_set hN hi hx (pe_var hm hv hd hcd) hs hf) (by
  obtain ⟨v, e1, ok⟩ := h0.get hG (by intro z; cases z)
  refine ⟨v, e1, hr _ H ?_⟩
  have a1 : At H0 (G.set j .no) σ H := by
    have := h0.drop (j := j) (o := some v)
    have e : σ.set j (some v) = σ := by
      apply List.ext_getElem?
      intro k
      rw [List.getElem?_set]
      by_cases hk : j = k
      · subst hk
        rw [if_pos rfl, if_pos (List.getElem?_eq_some_iff.mp e1).1, e1]
      · rw [if_neg hk]
    rwa [e] at this
  refine a1.setOwnV (s := .own l) ok fun k t nk e o q => ?_
  rw [List.getElem?_set] at e
  by_cases hk : j = k
  · subst hk
    rw [if_pos rfl] at e
    split at e
    · cases e; exact o
    · cases e
  · rw [if_neg hk] at e
    exact hk (h0.apart j k (.own l) t v hG e trivial o e1 q))
end
section
variable {P : Program} {w : World} {K : PySem.W.Frag} {mg : Str → Option Value} {base : Heap}
def llStart (lot : List Int) : Int := if (!decide (lot = [])) = true then (atI lot (-1)).getD 0 + 1 else 0
def llIn (count : Int) (g : List (List Int)) (lot : List Int) : List (List Int) := g ++ (rng (llStart lot) (count - llStart lot).toNat).map fun one => lot ++ [one]
def llOut (count : Int) (f : List (List Int)) (_ : Int) : List (List Int) := f.foldl (llIn count) []
def lawLots (count size : Int) : List (List Int) := (rng 0 size.toNat).foldl (llOut count) [[]]
def llO (count : Int) (f : List (List Int)) (_ : Int) : Bool := decide (f.length < 1000) && foldOk (fun g lot => decide (g.length < 1000) && decide (lot.length < 100) && decide (-1000 ≤ llStart lot ∧ llStart lot ≤ 1000)) (llIn count) [] f
def llOk (count size : Int) : Bool := decide (0 ≤ size ∧ size < 100) && decide (0 ≤ count ∧ count < 100) && foldOk (llO count) (llOut count) [[]] (rng 0 size.toNat)
theorem ok_law_lots (T : Tx K mg) : Cal P w K mg base 2 "_law_lots" ["_law_count", "_law_size"] (spG (fun i : Int × Int => (.cons i.1 (.cons i.2 .nil))) (fun i => (fun (count : Int) (size : Int) => llOk count size = true) i.1 i.2) fun i => (fun (count : Int) (size : Int) => New (Lst.mk (lawLots count size))) i.1 i.2) := by
  obtain ⟨fd, F⟩ := T.f_law_lots
  refine cal_of F T.g_law_lots (fn_ok (fun i => [.im (i.1), .im (i.2)]) 5 F sc_law_lots (fun i => (ent_im (ent_im ent_nil))) (fun _ => rfl) (fun _ => rfl) fun cdv A outer s H Ex i hr hp => ?_) (fun _ _ _ _ _ _ us hl => match us, hl with | [_, _], _ => rfl)
  obtain ⟨count, size⟩ := i
  have hp : llOk count size = true := hp
  unfold llOk at hp
  obtain ⟨hp, h3⟩ := Bool.and_eq_true_iff.mp hp
  obtain ⟨h1, h2⟩ := Bool.and_eq_true_iff.mp hp
  have h1 := of_decide_eq_true h1
  have h2 := of_decide_eq_true h2
  refine b_setOwn 2 (e_lst1 (e_tup0 (α := Int))) ?_ sc_law_lots.nd
  refine b_forF (fun f : List (List Int) => [.im count, .im size, .own f, .no, .no, .no, .no]) (llOut count) [[]] (ei_rng1 T.m_range (e_var 1) (by show -(2 ^ 62) ≤ size ∧ size < 2 ^ 62; omega)) (tgt_name 3 sc_law_lots.nd) (Sub.of []) (fun H0' hs i x f e ef => ?_) (fun H0' hs => ?_) nox_own
  · have hk := foldOk_get h3 e
    rw [← ef] at hk
    unfold llO at hk
    obtain ⟨k1, k2⟩ := Bool.and_eq_true_iff.mp hk
    have k1 := of_decide_eq_true k1
    refine b_setOwn 4 (e_lst0 (α := List Int)) ?_ sc_law_lots.nd
    refine b_keep 2 fun H5 hs5 => ?_
    refine b_forF (fun g : List (List Int) => [.im count, .im size, .old (Lst.mk f), .no, .own g, .no, .no]) (llIn count) [] (ei_old (e_old 2)) (tgt_name 5 sc_law_lots.nd) (Sub.of [3]) (fun H2 hs2 i lot g e eg => ?_) (fun H2 hs2 => ?_) nox_own
    · have hk := foldOk_get k2 e
      rw [← eg] at hk
      obtain ⟨hk, q3⟩ := Bool.and_eq_true_iff.mp hk
      obtain ⟨q1, q2⟩ := Bool.and_eq_true_iff.mp hk
      have q1 := of_decide_eq_true q1
      have q2 := of_decide_eq_true q2
      have q3 := of_decide_eq_true q3
      refine b_extend 4 (e_lc [("_law_one", 6)] sc_law_lots.nd (ei_rng2 T.m_range (x := llStart lot) (y := count) (e_ite (u := (atI lot (-1)).getD 0 + 1) (v := 0) (et_neT hr (e_var 5) e_tup0) (fun h => e_add (e_ixT (some_getD (atI_last ?_)) (e_var 5) (e_neg e_int)) e_int) fun _ => e_int) (e_var 0) (by omega)) (by rw [rng_len]; omega) (fun s H C cl fp => tgt_name 6 sc_law_lots.nd) (fun s H C cl fp H0' hs y hy => E.fresh (e_catT (by show lot.length + 1 < 1000000; omega) (e_var 5) (e_tup1 (e_var 6))))) (b_e [5] (Same.refl _)) ?_
      · intro z
        have z : lot = [] := z
        rw [z] at h
        cases h
      · rw [List.length_map, rng_len]; omega
    · exact b_mv 2 4 (b_e [] (Same.trans hs5 hs2)) sc_law_lots.nd
  · exact b_retOwn 2 hs
def ldF (wishes : List (Option Int)) (f : List Int) (e : Int × Option Int) : List Int := match e.2 with
  | none => f
  | some u => if (!decide (some u ∈ cutL wishes none (some e.1))) = true then f ++ [e.1] else f
def lawLeaders (wishes : List (Option Int)) : List Int := (enm wishes).foldl (ldF wishes) []
theorem ldF_len {wishes : List (Option Int)} : ∀ (l : List (Int × Option Int)) (f : List Int), (l.foldl (ldF wishes) f).length ≤ f.length + l.length
  | [], f => by simp
  | x :: l, f => by
    have h := ldF_len (wishes := wishes) l (ldF wishes f x)
    have : (ldF wishes f x).length ≤ f.length + 1 := by
      unfold ldF
      cases x.2 with
      | none => show f.length ≤ _; omega
      | some u =>
        show (if (!decide (some u ∈ cutL wishes none (some x.1))) = true then f ++ [x.1] else f).length ≤ _
        split
        · rw [List.length_append]; exact Nat.le_refl _
        · omega
    show (l.foldl (ldF wishes) (ldF wishes f x)).length ≤ f.length + (l.length + 1)
    omega
theorem ok_law_leaders (T : Tx K mg) : Cal P w K mg base 1 "_law_leaders" ["_law_wishes"] (spG (fun i : ((List (Option Int))) => (.cons i .nil)) (fun i => (fun (wishes : (List (Option Int))) => wishes.length < 1000) i) fun i => (fun (wishes : (List (Option Int))) => New (Lst.mk (lawLeaders wishes))) i) := by
  obtain ⟨fd, F⟩ := T.f_law_leaders
  refine cal_of F T.g_law_leaders (fn_ok (fun i => [.im (i)]) 3 F sc_law_leaders (fun i => (ent_im ent_nil)) (fun _ => rfl) (fun _ => rfl) fun cdv A outer s H Ex i hr hp => ?_) (fun _ _ _ _ _ _ us hl => match us, hl with | [_], _ => rfl)
  revert i; intro wishes hp
  have hp : wishes.length < 1000 := hp
  refine b_setOwn 1 (e_lst0 (α := Int)) ?_ sc_law_leaders.nd
  refine b_forF (fun f : List Int => [.im wishes, .own f, .no, .no]) (ldF wishes) [] (ei_enumT T.m_enumerate (e_var 0)) (tgt_2 2 3 rfl sc_law_leaders.nd) (Sub.of []) (fun H0' hs i x f e ef => ?_) (fun H0' hs => b_retOwn 1 hs) nox_own
  have fl : f.length < 1000000 := by
    rw [ef]
    have h1 := ldF_len (wishes := wishes) ((enm wishes).take i) []
    have h2 : ((enm wishes).take i).length ≤ (enm wishes).length := by rw [List.length_take]; omega
    rw [enm_len] at h2
    rw [List.length_nil] at h1
    omega
  obtain ⟨x1, x2⟩ := x
  cases x2 with
  | none => exact b_if (k := false) (et_w (ew_and (k := false) (l := true) (et_notN (o := (none : Option Int)) (e_var 3)) fun h => by cases h)) (fun h => by cases h) fun _ => b_go (b_e [2, 3] (Same.refl _))
  | some u =>
    refine b_if (k := true && !decide (some u ∈ cutL wishes none (some x1))) (et_w (ew_and (et_notN (o := some u) (e_var 3)) fun _ => ew_and1 (et_niTO (E.some (e_var 3)) (e_sliceT (e_var 0) eo_none (eo_some (e_var 2)))))) (fun h => ?_) fun h => ?_
    · have ew : ldF wishes f (x1, some u) = f ++ [x1] := if_pos h
      rw [ew]
      exact b_app 1 (e_var 2) (b_go (b_e [2, 3] (Same.refl _))) fl
    · have ew : ldF wishes f (x1, some u) = f := if_neg (by intro z; have h : (!decide (some u ∈ cutL wishes none (some x1))) = false := h; rw [z] at h; cases h)
      rw [ew]
      exact b_go (b_e [2, 3] (Same.refl _))
def lawMade (t : Int) (wishes : List (Option Int)) : List (List Int) := ((lawLots wishes.length (t + 1)).filter fun lot => (lot.map fun one => decide (one ∈ lawLeaders wishes)).any id).map fun lot => lot
def lmOk (t : Int) (wishes : List (Option Int)) : Bool := decide (wishes.length < 1000) && llOk wishes.length (t + 1) && decide ((lawLots wishes.length (t + 1)).length < 1000) && (lawLots wishes.length (t + 1)).all fun lot => decide (lot.length < 1000)
theorem ok_law_made (T : Tx K mg) : Cal P w K mg base 3 "_law_made" ["_law_t", "_law_wishes"] (spG (fun i : Int × ((List (Option Int))) => (.cons i.1 (.cons i.2 .nil))) (fun i => (fun (t : Int) (wishes : (List (Option Int))) => lmOk t wishes = true) i.1 i.2) fun i => (fun (t : Int) (wishes : (List (Option Int))) => New (Lst.mk (lawMade t wishes))) i.1 i.2) := by
  obtain ⟨fd, F⟩ := T.f_law_made
  refine cal_of F T.g_law_made (fn_ok (fun i => [.im (i.1), .im (i.2)]) 3 F sc_law_made (fun i => (ent_im (ent_im ent_nil))) (fun _ => rfl) (fun _ => rfl) fun cdv A outer s H Ex i hr hp => ?_) (fun _ _ _ _ _ _ us hl => match us, hl with | [_, _], _ => rfl)
  obtain ⟨t, wishes⟩ := i
  have hp : lmOk t wishes = true := hp
  unfold lmOk at hp
  obtain ⟨hp, h4⟩ := Bool.and_eq_true_iff.mp hp
  obtain ⟨hp, h3⟩ := Bool.and_eq_true_iff.mp hp
  obtain ⟨h1, h2⟩ := Bool.and_eq_true_iff.mp hp
  have h1 := of_decide_eq_true h1
  have h3 := of_decide_eq_true h3
  rw [List.all_eq_true] at h4
  refine b_setNew 2 (e_call (ok_law_leaders T) hr wishes h1 (ea_cons (e_var 1) ea_nil)) (fun H1 hs1 => ?_) sc_law_made.nd
  refine b_ret (e_lcI (pf := fun lot : List Int => (lot.map fun one => decide (one ∈ lawLeaders wishes)).any id) (ff := fun lot : List Int => lot) [("_law_lot", 3)] sc_law_made.nd (ei_new (e_call (ok_law_lots T) hr (wishes.length, t + 1) h2 (ea_cons (e_lenT T.m_len (e_var 1) (by show wishes.length < _; omega)) (ea_cons (e_add (e_var 0) e_int) ea_nil)))) (by show (lawLots wishes.length (t + 1)).length < _; omega) (fun s H C cl fp => tgt_name 3 sc_law_made.nd) (fun s H C cl fp H0' hs lot hl => et_val (e_any rfl T.m_any (E.val (e_lc [("_law_one", 4)] sc_law_made.nd (ei_tup (e_var 3)) (by have := of_decide_eq_true (h4 lot hl); show lot.length < _; omega) (fun s H C cl fp => tgt_name 4 sc_law_made.nd) (fun s H C cl fp H0' hs x hx => E.fresh (e_inL (e_var 4) (e_old 2).ofOld)))))) (fun s H C cl fp H0' hs x hx ht => E.fresh (e_var 3))) hs1
end
end Lk

/-! LkI3 -/
set_option Elab.async false
set_option linter.all false
set_option maxRecDepth 100000
set_option maxHeartbeats 4000000
set_option autoImplicit false
/-! House.day called. -/
namespace Lk
open PySem PySem.Spec PyProof.Rows L2
open Ty (r)
section
variable {K : PySem.W.Frag} {f : Addr} {fd : FuncData}
theorem day_binds (F : FunD K "day" "House.day" (defArgs s_House_day) (defBody s_House_day) (defScope s_House_day) [] [("spares", .int 0)] f fd) : ∃ ds, Vals [.int 0] ds ∧ Binds K fd ["self", "wishes", "spares"] ds :=
  F.binds0 2 (by decide) rfl fun D doc pm an cdv ct us ks hu hk => match us, ks, hu, hk with
    | [_, _], [_], _, _ => ⟨_, _, _, _, _, _, by rfl, by rfl, by rfl⟩
theorem day_kbinds (F : FunD K "day" "House.day" (defArgs s_House_day) (defBody s_House_day) (defScope s_House_day) [] [("spares", .int 0)] f fd) : KBn K fd ["self", "wishes", "spares"] 2 ["spares"] (fun us ws => us ++ ws) (fun vs zs => vs ++ zs) := by
  obtain ⟨mv, h⟩ := F.kbinds0 (ps := ["self", "wishes", "spares"]) 2 ["spares"] [] (fun us _ ws => us ++ ws) (by decide) (fun q hq => nomatch hq) (fun r1 _ r3 => r1.append r3) fun D doc pm an cdv ct us mv ws hu hm hw => match us, mv, ws, hu, hm, hw with
    | [_, _], [], [_], _, _, _ => by rfl
  exact h
end
section
variable {X : Cx} {CX : CXT} {k n : Nat} {f C : Addr} {fd : FuncData} {ps ks : List Str} {sp : Sp} {Ex : XK} {m : Str} {pos apos : Pos} {e o : Expr} {es : List Expr} {kws : List Keyword} {ta : TE} {t tk : TA} {g : List Value → List Value → List Value} {gV : List V → List V → List V}
/-- o.m(e, .., k = v, ..) -/
theorem pe_mKw {pl : Sem Bool} (he : PE X o ta) (c : Cls X.K C) (hm : Meth X.K C m f) (F : FnOk X.prog X.w X.K X.mg X.base CX k f fd ps sp) (hr : Room k X.A) (hb : KBn X.K fd ps (n + 1) ks g gV) (hx : Passes CX X Ex) (ha : PA X (e :: es) t) (hkw : PK X kws tk)
    (hall : (backToKw pos (keywordEach kws X.env)).all (·.1.isSome) = true := by rfl) (hks : (backToKw pos (keywordEach kws X.env)).filterMap (·.1) = ks := by rfl) (hst : starEach (e :: es) X.env = (false, eval e X.env) :: starEach es X.env := by rfl)
    (hpl : ((backTo pos (starEach (e :: es) X.env)).any (·.1) || (backToKw pos (keywordEach kws X.env)).any (·.1.isNone)) = false := by rfl)
    (ht : eval (.Call (.Attribute o m apos) (e :: es) kws pos) X.env = (do
      let ov ← eval o X.env
      standAt apos.atName
      let (f, first) ← holding [ov] (getMethod ov m pl)
      callWith pos f first (backTo pos (starEach (e :: es) X.env)) (backToKw pos (keywordEach kws X.env))) := by rfl) :
    PE X (.Call (.Attribute o m apos) (e :: es) kws pos) (fun σ H Q => ta σ H fun x H1 => ∃ a dx fs, x = .ref a ∧ H1 a = some (.ins C dx fs) ∧ fs.lookup m = none ∧ t σ H1 fun vs H2 => tk σ H2 fun zs H3 => vs.length = n ∧ zs.length = ks.length ∧ sp (gV (x :: vs) zs) H3 Q Ex) := by
  refine ⟨fun pins s σ H Q I hq => PySem.W.methodCall_KW (pl := pl) (thn (he.run pins s σ H _ I hq) fun u s1 ⟨x, H1, I1, rx, a, dx, fs, ex, ea, l, q⟩ => ?_) ht⟩
  subst ex
  cases (show u = Value.ref a from rx)
  refine getmeth_ok I1 ea c hm l (PySem.W.callWith_KW (first := [.ref a]) (h₀ := X.base) I.ok.mod.kin hm.kp hall (thn (ha.run pos pins s1 σ H1 _ I1 q) fun us s2 ⟨vs, H2, I2, r2, q2⟩ => ?_) hpl hst)
  refine thn (hkw.run pos pins s2 σ H2 _ I2 q2) fun ws s3 ⟨zs, H3, I3, rz, l1, l2, q3⟩ => ⟨I3.kIn, ?_⟩
  rw [hks]
  exact run_fnN (us := .ref a :: us) (vs := .ref a :: vs) F hr hb hx I3 (.cons rfl r2) rz (by rw [List.length_cons, l1]) l2 q3
end
end Lk

/-! LkI4 -/
set_option Elab.async false
set_option linter.all false
set_option maxRecDepth 100000
set_option maxHeartbeats 4000000
set_option autoImplicit false
/-! Wide numbers. -/
namespace Lk
open PySem PySem.Spec PyProof.Rows L2
open Ty (r)
def CPowI (i j : Int) : Prop := 0 ≤ j ∧ (Builtin.Int.intBits i : Int) * j ≤ 2 ^ 27
theorem op_powI {X : Cx} : OpR X (binaryOp .Pow) (rI CPowI fun i j => .int (i ^ j.toNat)) := opI fun _ _ _ _ _ _ _ hc q => PyProof.Rows.pow_int hc.1 hc.2 q
section
variable {X : Cx} {H0 : Hp} {G : List Slot} {a b : Expr} {pos : Pos} {x y : Int}
theorem e_pow (hc : CPowI x y) (ha : E X H0 G a (Val x)) (hb : E X H0 G b (Val y)) : E X H0 G (.BinOp a .Pow b pos) (Val (x ^ y.toNat)) := e_op op_powI (rI_ok hc fun _ => rfl) ha hb
theorem e_mulW (hc : CMulW x y) (ha : E X H0 G a (Val x)) (hb : E X H0 G b (Val y)) : E X H0 G (.BinOp a .Mult b pos) (Val (x * y)) := e_op op_mulW (rI_ok hc fun _ => rfl) ha hb
theorem e_fdivW (hc : CDivW x y) (ha : E X H0 G a (Val x)) (hb : E X H0 G b (Val y)) : E X H0 G (.BinOp a .FloorDiv b pos) (Val (x / y)) := e_op op_fdivW (rI_ok hc fun _ => rfl) ha hb
end
end Lk

/-! LkI5 -/
set_option Elab.async false
set_option linter.all false
set_option maxRecDepth 100000
set_option maxHeartbeats 4000000
set_option autoImplicit false
/-! _law_pot -/
namespace Lk
open PySem PySem.Spec PyProof.Rows L2
open Ty (r)
section
variable {X : Cx} {H0 : Hp} {G : List Slot} {a b c : Expr} {pos : Pos}
theorem e_lst3 {α : Type} [Im α] {u w z : α} (ha : E X H0 G a (Val u)) (hb : E X H0 G b (Val w)) (hc : E X H0 G c (Val z)) (hs : starEach [a, b, c] X.env = (false, eval a X.env) :: starEach [b, c] X.env := by rfl) (hs2 : starEach [b, c] X.env = (false, eval b X.env) :: starEach [c] X.env := by rfl) (hs3 : starEach [c] X.env = (false, eval c X.env) :: starEach [] X.env := by rfl) : E X H0 G (.List [a, b, c] pos) (New (Lst.mk [u, w, z])) := fun σ H Q h0 q =>
  pe_out (pe_lst (pa_cons pe_in (pa_cons pe_in (pa_cons pe_in pa_nil hs3) hs2) hs)) (ha σ H _ h0 fun v1 H1 s1 p1 => hb σ H1 _ (h0.ext s1) fun v2 H2 s2 p2 => hc σ H2 _ ((h0.ext s1).ext s2) fun v3 H3 s3 p3 => ⟨szl (by show (3 : Nat) < 1000000; decide), fun m hm => by
    have s03 := Same.trans (Same.trans s1 s2) s3
    have sn := Same.trans s03 (Same.new (o := .lst [v1, v2, v3]) hm)
    exact q _ _ sn ⟨m, _, rfl, cut_new (Same.free s03 hm) upd_same, .cons (Im.keep (keep_cut sn) (Ty.mono (Same.trans (Same.trans s2 s3) (Same.new hm)) p1)) (.cons (Im.keep (keep_cut sn) (Ty.mono (Same.trans s3 (Same.new hm)) p2)) (.cons (Im.keep (keep_cut sn) (Ty.mono (Same.new hm) p3)) .nil))⟩⟩)
theorem e_lst4 {α : Type} [Im α] {d : Expr} {u w z t : α} (ha : E X H0 G a (Val u)) (hb : E X H0 G b (Val w)) (hc : E X H0 G c (Val z)) (hd : E X H0 G d (Val t)) (hs : starEach [a, b, c, d] X.env = (false, eval a X.env) :: starEach [b, c, d] X.env := by rfl) (hs2 : starEach [b, c, d] X.env = (false, eval b X.env) :: starEach [c, d] X.env := by rfl) (hs3 : starEach [c, d] X.env = (false, eval c X.env) :: starEach [d] X.env := by rfl) (hs4 : starEach [d] X.env = (false, eval d X.env) :: starEach [] X.env := by rfl) : E X H0 G (.List [a, b, c, d] pos) (Val (Lst.mk [u, w, z, t])) := fun σ H Q h0 q =>
  pe_out (pe_lst (pa_cons pe_in (pa_cons pe_in (pa_cons pe_in (pa_cons pe_in pa_nil hs4) hs3) hs2) hs)) (ha σ H _ h0 fun v1 H1 s1 p1 => hb σ H1 _ (h0.ext s1) fun v2 H2 s2 p2 => hc σ H2 _ ((h0.ext s1).ext s2) fun v3 H3 s3 p3 => hd σ H3 _ (((h0.ext s1).ext s2).ext s3) fun v4 H4 s4 p4 => ⟨szl (by show (4 : Nat) < 1000000; decide), fun m hm =>
    q _ _ (Same.trans (Same.trans (Same.trans (Same.trans s1 s2) s3) s4) (Same.new (o := .lst [v1, v2, v3, v4]) hm)) ⟨m, _, rfl, upd_same, .cons (Ty.mono (Same.trans (Same.trans (Same.trans s2 s3) s4) (Same.new hm)) p1) (.cons (Ty.mono (Same.trans (Same.trans s3 s4) (Same.new hm)) p2) (.cons (Ty.mono (Same.trans s4 (Same.new hm)) p3) (.cons (Ty.mono (Same.new hm) p4) .nil)))⟩⟩)
end
section
variable {P : Program} {w : World} {K : PySem.W.Frag} {mg : Str → Option Value} {base : Heap}
/-- a pot: three ints, the third at most n -/
structure PotAt (q : Addr) (n : Int) (C : Hp) : Prop where
  ex : ∃ a b c : Int, C q = some (.lst [.int a, .int b, .int c]) ∧ 0 ≤ a ∧ (0 ≤ b ∧ b < 2 ^ 62) ∧ (0 ≤ c ∧ c ≤ n)
theorem PotAt.mono {q : Addr} {n : Int} {C C' : Hp} (h : PotAt q n C) (s : Same C C') : PotAt q n C' := let ⟨a, b, c, e, r⟩ := h.ex; ⟨a, b, c, s _ _ e, r⟩
def spTake : Sp := fun vs H Q _ => ∃ (Hc : Hp) (q : Addr) (n size : Int), vs = [.ref q, .int size] ∧ Same Hc H ∧ PotAt q n (cut Hc H) ∧ n < 2 ^ 40 ∧ (0 < size ∧ size < 1073741824) ∧ ∀ (x : Int) H', Same Hc H' → KeepT H H' → PotAt q (n + 1) (cut Hc H') → 0 ≤ x ∧ x < size → Q (.int x) H'
end
end Lk

/-! LkI6 -/
set_option Elab.async false
set_option linter.all false
set_option maxRecDepth 100000
set_option maxHeartbeats 4000000
set_option autoImplicit false
/-! _law_take -/
namespace Lk
open PySem PySem.Spec PyProof.Rows L2
open Ty (r)
section
variable {X : Cx} {H0 : Hp} {G : List Slot} {e : Expr} {pos : Pos} {D : Ends} {rest : List Stmt}
theorem b_retQ {ρ : Res} (he : E X H0 G e ρ) (h : ∀ H v H', Same H0 H → Same H H' → ρ.p H v H' → D.rt v H') : B X H0 G (.Return (some e) pos :: rest) D := B.seq fun σ H h0 => ps_out (ps_ret pe_in) (he σ H _ h0 fun v H1 s1 p1 => h H v H1 h0.same s1 p1)
end
section
variable {P : Program} {w : World} {K : PySem.W.Frag} {mg : Str → Option Value} {base : Heap}
theorem lst3R {q : Addr} {a b c : Int} {H : Hp} (h : H q = some (.lst [.int a, .int b, .int c])) : r (Lst.mk [a, b, c]) (.ref q) H := ⟨q, _, rfl, h, .cons rfl (.cons rfl (.cons rfl .nil))⟩
def prs : List Int := [2305843009213693951, 999999999989, 1000000000039, 67280421310721]
theorem prs_in {i : Int} (h0 : 0 ≤ i) (h1 : i < 4) : ∃ z, atI prs i = some z ∧ 0 < z ∧ z < 2 ^ 62 := by
  have : i = 0 ∨ i = 1 ∨ i = 2 ∨ i = 3 := by omega
  rcases this with rfl | rfl | rfl | rfl
  · exact ⟨2305843009213693951, rfl, by decide, by decide⟩
  · exact ⟨999999999989, rfl, by decide, by decide⟩
  · exact ⟨1000000000039, rfl, by decide, by decide⟩
  · exact ⟨67280421310721, rfl, by decide, by decide⟩
theorem ok_law_take (T : Tx K mg) : Cal P w K mg base 1 "_law_take" ["_law_pot_here", "_law_size"] spTake := by
  obtain ⟨fd, F⟩ := T.f_law_take
  refine cal_of F T.g_law_take (F.ok sc_law_take (fun vs H Q Ex ⟨_, _, _, _, e, _⟩ => by rw [e]; rfl) fun cdv A outer s H vs Q Ex hr ⟨Hc, q, n, size, e, hs, hp, hn, hz, hq⟩ => ?_) (fun _ _ _ _ _ _ us hl => match us, hl with | [_, _], _ => rfl)
  subst e
  refine ⟨_, PSs.nox pss_in, ?_⟩
  suffices hB : B (cxOf CX0 P w K mg base N_law_take "_law_take" (defScope s_law_take) (He.fAd K ("_law_take", none)) cdv A outer s H Ex).nox H [.im (Adr.mk q), .im size, .no, .no, .no] (defBody s_law_take) { nx := fun _ H' => Q .non H', rt := Q } from
    hB _ H (ent_at (R := .cons (Adr.mk q) (.cons size .nil)) (gs := [.im (Adr.mk q), .im size]) (n := 3) (ent_im (ent_im ent_nil)) (by rfl) ⟨_, _, rfl, rfl, _, _, rfl, rfl, rfl⟩)
  obtain ⟨a, b, c, hC, ha, hb, hc⟩ := hp.ex
  have h0 := cut_some hs _ _ hC
  have hcq : Hc q = none := new_free hC fun _ z => nomatch z
  refine b_ifR (et_gt (e_ixL (l := [a, b, c]) (u := a) (by rfl) (E.ofOld (E.there (e_var 0) (lst3R h0))) e_int) e_int) (fun h => ?_) fun h => ?_
  · refine b_set 2 (e_mod hz.1 (e_ixL (l := [a, b, c]) (u := a) (by rfl) (E.ofOld (E.there (e_var 0) (lst3R h0))) e_int) (e_var 1)) ?_ sc_law_take.nd
    refine b_item (u := a / size) (j := 0) (e_fdiv (by unfold CDiv; exact ⟨hz.1, hz.2⟩) (e_ixL (l := [a, b, c]) (u := a) (by rfl) (E.ofOld (E.there (e_var 0) (lst3R h0))) e_int) (e_var 1)) h0 (by show 0 < 3; decide) (e_var 0) e_int (fun v H1 s1 rv => ?_)
    have rv : v = .int (a / size) := rv
    subst rv
    refine ⟨[.im (Adr.mk q), .im size, .im (a % size), .no, .no], .im _ (.im _ (.im _ (.drop _ (.drop _ .nil)))), b_retQ (e_var 2) fun H2 v H3 s2 s3 rv => ?_⟩
    have rv : v = .int (a % size) := rv
    subst rv
    have hs1 := Same.cutU (o := .lst [.int (a / size), .int b, .int c]) hs hcq
    have s03 := Same.trans s2 s3
    refine hq (a % size) H3 (Same.trans hs1 s03) (KeepT.trans (kt_upd h0 (fun _ z => nomatch z)) (keepT s03)) ⟨a / size, b, c, cut_new hcq (s03 _ _ upd_same), Int.ediv_nonneg ha (Int.le_of_lt hz.1), hb, hc.1, by omega⟩ ⟨Int.emod_nonneg _ (Int.ne_of_gt hz.1), Int.emod_lt_of_pos _ hz.1⟩
  · refine b_item (u := c + 1) (j := 2) (e_add (e_ixL (l := [a, b, c]) (u := c) (by rfl) (E.ofOld (E.there (e_var 0) (lst3R h0))) e_int) e_int) h0 (by show 2 < 3; decide) (e_var 0) e_int (fun v H1 s1 rv => ?_)
    have rv : v = .int (c + 1) := rv
    subst rv
    have hs1 := Same.cutU (o := .lst [.int a, .int b, .int (c + 1)]) hs hcq
    have k1 := kt_upd (o := .lst [.int a, .int b, .int (c + 1)]) h0 (fun _ z => nomatch z)
    obtain ⟨B1, eB⟩ : ∃ B1, upd H q (.lst [.int a, .int b, .int (c + 1)]) = B1 := ⟨_, rfl⟩
    have h1 : B1 q = some (.lst [.int a, .int b, .int (c + 1)]) := by rw [← eB, upd_same]
    rw [eB] at hs1 k1
    refine ⟨[.im (Adr.mk q), .im size, .no, .no, .no], .im _ (.im _ (.drop _ (.drop _ (.drop _ .nil)))), ?_⟩
    show B _ (upd H q (.lst [.int a, .int b, .int (c + 1)])) _ _ _
    rw [eB]
    obtain ⟨z, hz1, hz2, hz3⟩ := prs_in (i := (c + 1) % 4) (by omega) (by omega)
    have e2 : ∀ {H' : Hp} {G : List Slot} {pp pq pr : Pos}, True := fun {_ _ _ _ _} => trivial
    refine b_set 3 (x := z) (e_ixL (l := prs) hz1 (e_lst4 e_int e_int e_int e_int) (e_mod (by decide) (e_ixL (l := [a, b, c + 1]) (u := c + 1) (by rfl) (E.ofOld (E.there (e_var 0) (lst3R h1))) e_int) e_int)) ?_ sc_law_take.nd
    refine b_set 4 (x := (b + 7919 * (c + 1) * (c + 1) + 65537 * (c + 1)) % z) (e_mod hz2 (e_add (e_add (e_ixL (l := [a, b, c + 1]) (u := b) (by rfl) (E.ofOld (E.there (e_var 0) (lst3R h1))) e_int) (e_mul (by unfold CMul; right; omega) (e_mul (by unfold CMul; left; omega) e_int (e_ixL (l := [a, b, c + 1]) (u := c + 1) (by rfl) (E.ofOld (E.there (e_var 0) (lst3R h1))) e_int)) (e_ixL (l := [a, b, c + 1]) (u := c + 1) (by rfl) (E.ofOld (E.there (e_var 0) (lst3R h1))) e_int))) (e_mul (by unfold CMul; left; omega) e_int (e_ixL (l := [a, b, c + 1]) (u := c + 1) (by rfl) (E.ofOld (E.there (e_var 0) (lst3R h1))) e_int))) (e_var 3)) ?_ sc_law_take.nd
    have m1 := Int.emod_nonneg (b + 7919 * (c + 1) * (c + 1) + 65537 * (c + 1)) (Int.ne_of_gt hz2)
    have m2 := Int.emod_lt_of_pos (b + 7919 * (c + 1) * (c + 1) + 65537 * (c + 1)) hz2
    generalize (b + 7919 * (c + 1) * (c + 1) + 65537 * (c + 1)) % z = m at m1 m2
    refine b_set 4 (x := m ^ (5 : Int).toNat % z) (e_mod hz2 (e_op op_pow (rI_ok (C := CPow) (g := fun i j => .int (i ^ j.toNat)) (z := m ^ (5 : Int).toNat) (by unfold CPow; omega) fun _ => rfl) (e_var 4) (e_int (i := 5))) (e_var 3)) ?_ sc_law_take.nd
    have m3 := Int.emod_nonneg (m ^ (5 : Int).toNat) (Int.ne_of_gt hz2)
    have m4 := Int.emod_lt_of_pos (m ^ (5 : Int).toNat) hz2
    generalize m ^ (5 : Int).toNat % z = k at m3 m4
    refine b_retQ (e_mod hz.1 (e_add (e_fdiv (by unfold CDiv; decide) (e_var 4) e_int) (e_mul (by unfold CMul; right; decide) (e_fdiv (by unfold CDiv; decide) (e_var 4) e_int) e_int)) (e_var 1)) fun H2 v H3 s2 s3 rv => ?_
    have rv : v = .int ((k / 4099 + k / 1000003 * 7) % size) := rv
    subst rv
    have s03 := Same.trans s2 s3
    exact hq _ H3 (Same.trans hs1 s03) (KeepT.trans k1 (keepT s03)) ⟨a, b, c + 1, cut_new hcq (s03 _ _ h1), ha, hb, by omega, by omega⟩ ⟨Int.emod_nonneg _ (Int.ne_of_gt hz.1), Int.emod_lt_of_pos _ hz.1⟩
end
end Lk

/-! LkI7 -/
set_option Elab.async false
set_option linter.all false
set_option maxRecDepth 100000
set_option maxHeartbeats 4000000
set_option autoImplicit false
/-! A pot in the base: what takes from it. -/
namespace Lk
open PySem PySem.Spec PyProof.Rows L2
open Ty (r)
/-- all but the pot -/
def less (H : Hp) (q : Addr) : Hp := fun b => if b = q then none else H b
theorem less_same {H : Hp} {q : Addr} : Same (less H q) H := fun b o e => by
  unfold less at e
  split at e
  · cases e
  · exact e
theorem less_q {H : Hp} {q : Addr} : less H q q = none := by unfold less; rw [if_pos rfl]
theorem less_get {H : Hp} {q b : Addr} {o : HO} (h : H b = some o) (n : b ≠ q) : less H q b = some o := by unfold less; rw [if_neg n]; exact h
section
variable {X : Cx} {H0 : Hp} {G : List Slot} {e a : Expr} {pos p : Pos} {K : PySem.W.Frag} {mg : Str → Option Value}
/-- e takes from the pot at q, at most k times; φ: what is true of its value -/
def EP (X : Cx) (q : Addr) (G : List Slot) (e : Expr) (k : Nat) {α : Type} [Im α] (φ : α → Prop) : Prop := ∀ (H0 : Hp) (n : Int) σ H Q, At H0 G σ H → PotAt q n H0 → n + k < 2 ^ 40 → (∀ x v Hb H', (∀ b o, b ≠ q → H0 b = some o → Hb b = some o) → PotAt q (n + k) Hb → At Hb G σ H' → φ x → r x v H' → Q v H') → tE X e σ H Q
theorem ep_take {k m : Nat} {q : Addr} {size : Int} {b : Expr} (F : Cal X.prog X.w X.K X.mg X.base k "_law_take" ["_law_pot_here", "_law_size"] spTake) (hr : Room m X.A) (hz : 0 < size ∧ size < 1073741824) (hch : ∀ {A B : Hp}, Chg A B G G) (ha : ∀ H0, E X H0 G a (Val (Adr.mk q))) (hb : ∀ H0, E X H0 G b (Val size)) (hk : k ≤ m := by decide) (hg : Gl X "_law_take" := by rfl)
    (hs : starEach [a, b] X.env = (false, eval a X.env) :: starEach [b] X.env := by rfl) (hs2 : starEach [b] X.env = (false, eval b X.env) :: starEach [] X.env := by rfl) (hpl : (backTo pos (starEach [b] X.env)).any (·.1) = false := by rfl) :
    EP X q G (.Call (.Name "_law_take" p) [a, b] [] pos) 1 (fun x : Int => 0 ≤ x ∧ x < size) := fun H0 n σ H Q h0 hp hn hq => by
  obtain ⟨f, fd, F1, F2, F3, F4⟩ := F.ex
  refine pe_out (pe_call F1 (hr.mono hk) hg F2 F3 F4 .nil pass0 (pa_cons pe_in (pa_cons pe_in pa_nil hs2) hs) (by decide) hs hpl) (ha H0 σ H _ h0 fun v1 H1 s1 p1 => hb H0 σ H1 _ (h0.ext s1) fun v2 H2 s2 p2 => ?_)
  have p1 : v1 = .ref q := p1
  have p2 : v2 = .int size := p2
  subst p1 p2
  have a2 := (h0.ext s1).ext s2
  obtain ⟨pa, pb, pc, e1, e2⟩ := hp.ex
  have e3 := a2.same _ _ e1
  refine ⟨less H2 q, q, n, size, rfl, less_same, ⟨pa, pb, pc, cut_new less_q e3, e2⟩, by omega, hz, fun x H' t1 t2 t3 t4 => ?_⟩
  obtain ⟨na, nb, nc, g1, g2⟩ := t3.ex
  have g3 := cut_some t1 _ _ g1
  refine hq x (.int x) (upd H0 q (.lst [.int na, .int nb, .int nc])) H' (fun b o hb hb2 => by rw [upd_ne hb]; exact hb2) ⟨na, nb, nc, upd_same, g2⟩ (a2.chg hch t2 (fun b o hbo => ?_) fun b u z1 z2 _ => ?_) t4 rfl
  · by_cases hbq : b = q
    · subst hbq; rw [upd_same] at hbo; cases hbo; exact g3
    · rw [upd_ne hbq] at hbo
      exact t1 b o (less_get (a2.same _ _ hbo) hbq)
  · have hbq : b ≠ q := fun z => by subst z; rw [e1] at z1; cases z1
    exact ⟨t1 b u (less_get z2 hbq), by rw [upd_ne hbq]; exact z1⟩
end
end Lk

/-! LkJ1 -/
set_option Elab.async false
set_option linter.all false
set_option maxRecDepth 100000
set_option maxHeartbeats 4000000
set_option autoImplicit false
/-! What hangs on hands, t and wishes alone: all cases. -/
namespace Lk
open PySem PySem.Spec PyProof.Rows L2
open Ty (r)
def allWishes : Nat → List (List (Option Int))
  | 0 => [[]]
  | n + 1 => (allWishes n).flatMap fun l => [none :: l, some 0 :: l, some 1 :: l, some 2 :: l]
theorem allWishes_mem : ∀ {n : Nat} {l : List (Option Int)}, l.length = n → (∀ o ∈ l, o = none ∨ o = some 0 ∨ o = some 1 ∨ o = some 2) → l ∈ allWishes n
  | 0, [], _, _ => by simp [allWishes]
  | n + 1, o :: l, hl, h => by
    have ih := allWishes_mem (n := n) (l := l) (by simpa using hl) fun x hx => h x (List.mem_cons_of_mem _ hx)
    rw [allWishes, List.mem_flatMap]
    refine ⟨l, ih, ?_⟩
    rcases h o (by simp) with rfl | rfl | rfl | rfl <;> simp
  | 0, _ :: _, hl, _ => by simp at hl
  | _ + 1, [], hl, _ => by simp at hl
instance (t : Int) (wishes : List (Option Int)) : Decidable (madeOk t wishes) := by unfold madeOk; infer_instance
/-- a term: its lot and its piece -/
def termIn (hands t : Int) (wishes : List (Option Int)) (e : T3 Int Int (List Int)) : Bool := lotIn e.c && decide (-2 ≤ e.a ∧ e.a ≤ 2) && decide (0 ≤ numberOf hands e.c ∧ numberOf hands e.c < chooseI hands t) && decide (e.b ∈ wishedI wishes)
def lotTerms (hands t : Int) (wishes : List (Option Int)) (lot : List Int) : Bool := tOk wishes lot && decide ((termsI wishes lot).length < 100) && (termsI wishes lot).all (termIn hands t wishes)
def cellIn (hands t : Int) (wishes : List (Option Int)) : Bool :=
  decide (madeOk t wishes) && decide (0 ≤ madeI t wishes ∧ madeI t wishes < 100) && mlOk t wishes && decide ((madeLots t wishes).length = (madeI t wishes).toNat) && (madeLots t wishes).all (lotTerms hands t wishes) &&
  (rng 0 (madeI t wishes).toNat).all (fun number => madeAtOk t wishes number && lotTerms hands t wishes (madeAt t wishes number)) && lmOk t wishes && decide ((lawMade t wishes).length = (madeI t wishes).toNat)
def gridIn (hands t : Int) : Bool := decide (nk hands t) && decide (0 ≤ chooseI hands t ∧ chooseI hands t < 100) && (rng 0 (chooseI hands t).toNat).all (fun at' => lotAtOk hands t at') && llOk hands t && decide ((lawLots hands t).length = (chooseI hands t).toNat)
theorem grid_ok : ([((2:Int),(0 : Int)),(2,1),(3,0),(3,1),(3,2),(4,0),(4,1),(4,2),(4,3)].all fun x => gridIn x.1 x.2) = true := by decide +kernel
theorem cells2 : ([((2:Int),(0 : Int)),(2,1)].all fun x => (allWishes 2).all (cellIn x.1 x.2)) = true := by decide +kernel
end Lk

/-! LkJ2 -/
set_option Elab.async false
set_option linter.all false
set_option maxRecDepth 100000
set_option maxHeartbeats 4000000
set_option autoImplicit false
/-! cellIn for all wishes. -/
namespace Lk
open PySem PySem.Spec PyProof.Rows L2
open Ty (r)
theorem chunk_all {α : Type} {f : α → Bool} {l : List α} (m n : Nat) (hm : 0 < m) (hl : l.length ≤ m * n) (h : ∀ i, i < n → ((l.drop (m * i)).take m).all f = true) : l.all f = true := by
  rw [List.all_eq_true]
  intro x hx
  obtain ⟨j, hj⟩ := List.getElem?_of_mem hx
  have jl := (List.getElem?_eq_some_iff.mp hj).1
  have e := Nat.div_add_mod j m
  have r := Nat.mod_lt j hm
  have hi : j / m < n := Nat.div_lt_of_lt_mul (Nat.lt_of_lt_of_le jl hl)
  have := h _ hi
  rw [List.all_eq_true] at this
  refine this x (List.mem_of_getElem? (i := j % m) ?_)
  rw [List.getElem?_take_of_lt r, List.getElem?_drop, e]
  exact hj
theorem cell_3_0_0 : ((((allWishes 3).drop (32 * 0)).take 32).all fun l => cellIn 3 0 l) = true := by decide +kernel
theorem cell_3_0_1 : ((((allWishes 3).drop (32 * 1)).take 32).all fun l => cellIn 3 0 l) = true := by decide +kernel
theorem cells_3_0 : ((allWishes 3).all fun l => cellIn 3 0 l) = true := chunk_all 32 2 (by decide) (by decide +kernel) fun i hi => match i, hi with
  | 0, _ => cell_3_0_0
  | 1, _ => cell_3_0_1
  | i + 2, h => absurd h (by omega)
theorem cell_3_1_0 : ((((allWishes 3).drop (32 * 0)).take 32).all fun l => cellIn 3 1 l) = true := by decide +kernel
theorem cell_3_1_1 : ((((allWishes 3).drop (32 * 1)).take 32).all fun l => cellIn 3 1 l) = true := by decide +kernel
theorem cells_3_1 : ((allWishes 3).all fun l => cellIn 3 1 l) = true := chunk_all 32 2 (by decide) (by decide +kernel) fun i hi => match i, hi with
  | 0, _ => cell_3_1_0
  | 1, _ => cell_3_1_1
  | i + 2, h => absurd h (by omega)
theorem cell_3_2_0 : ((((allWishes 3).drop (32 * 0)).take 32).all fun l => cellIn 3 2 l) = true := by decide +kernel
theorem cell_3_2_1 : ((((allWishes 3).drop (32 * 1)).take 32).all fun l => cellIn 3 2 l) = true := by decide +kernel
theorem cells_3_2 : ((allWishes 3).all fun l => cellIn 3 2 l) = true := chunk_all 32 2 (by decide) (by decide +kernel) fun i hi => match i, hi with
  | 0, _ => cell_3_2_0
  | 1, _ => cell_3_2_1
  | i + 2, h => absurd h (by omega)
theorem cell_4_0_0 : ((((allWishes 4).drop (32 * 0)).take 32).all fun l => cellIn 4 0 l) = true := by decide +kernel
theorem cell_4_0_1 : ((((allWishes 4).drop (32 * 1)).take 32).all fun l => cellIn 4 0 l) = true := by decide +kernel
theorem cell_4_0_2 : ((((allWishes 4).drop (32 * 2)).take 32).all fun l => cellIn 4 0 l) = true := by decide +kernel
theorem cell_4_0_3 : ((((allWishes 4).drop (32 * 3)).take 32).all fun l => cellIn 4 0 l) = true := by decide +kernel
theorem cell_4_0_4 : ((((allWishes 4).drop (32 * 4)).take 32).all fun l => cellIn 4 0 l) = true := by decide +kernel
theorem cell_4_0_5 : ((((allWishes 4).drop (32 * 5)).take 32).all fun l => cellIn 4 0 l) = true := by decide +kernel
theorem cell_4_0_6 : ((((allWishes 4).drop (32 * 6)).take 32).all fun l => cellIn 4 0 l) = true := by decide +kernel
theorem cell_4_0_7 : ((((allWishes 4).drop (32 * 7)).take 32).all fun l => cellIn 4 0 l) = true := by decide +kernel
theorem cells_4_0 : ((allWishes 4).all fun l => cellIn 4 0 l) = true := chunk_all 32 8 (by decide) (by decide +kernel) fun i hi => match i, hi with
  | 0, _ => cell_4_0_0
  | 1, _ => cell_4_0_1
  | 2, _ => cell_4_0_2
  | 3, _ => cell_4_0_3
  | 4, _ => cell_4_0_4
  | 5, _ => cell_4_0_5
  | 6, _ => cell_4_0_6
  | 7, _ => cell_4_0_7
  | i + 8, h => absurd h (by omega)
theorem cell_4_1_0 : ((((allWishes 4).drop (32 * 0)).take 32).all fun l => cellIn 4 1 l) = true := by decide +kernel
theorem cell_4_1_1 : ((((allWishes 4).drop (32 * 1)).take 32).all fun l => cellIn 4 1 l) = true := by decide +kernel
theorem cell_4_1_2 : ((((allWishes 4).drop (32 * 2)).take 32).all fun l => cellIn 4 1 l) = true := by decide +kernel
theorem cell_4_1_3 : ((((allWishes 4).drop (32 * 3)).take 32).all fun l => cellIn 4 1 l) = true := by decide +kernel
theorem cell_4_1_4 : ((((allWishes 4).drop (32 * 4)).take 32).all fun l => cellIn 4 1 l) = true := by decide +kernel
theorem cell_4_1_5 : ((((allWishes 4).drop (32 * 5)).take 32).all fun l => cellIn 4 1 l) = true := by decide +kernel
theorem cell_4_1_6 : ((((allWishes 4).drop (32 * 6)).take 32).all fun l => cellIn 4 1 l) = true := by decide +kernel
theorem cell_4_1_7 : ((((allWishes 4).drop (32 * 7)).take 32).all fun l => cellIn 4 1 l) = true := by decide +kernel
theorem cells_4_1 : ((allWishes 4).all fun l => cellIn 4 1 l) = true := chunk_all 32 8 (by decide) (by decide +kernel) fun i hi => match i, hi with
  | 0, _ => cell_4_1_0
  | 1, _ => cell_4_1_1
  | 2, _ => cell_4_1_2
  | 3, _ => cell_4_1_3
  | 4, _ => cell_4_1_4
  | 5, _ => cell_4_1_5
  | 6, _ => cell_4_1_6
  | 7, _ => cell_4_1_7
  | i + 8, h => absurd h (by omega)
theorem cell_4_2_0 : ((((allWishes 4).drop (32 * 0)).take 32).all fun l => cellIn 4 2 l) = true := by decide +kernel
theorem cell_4_2_1 : ((((allWishes 4).drop (32 * 1)).take 32).all fun l => cellIn 4 2 l) = true := by decide +kernel
theorem cell_4_2_2 : ((((allWishes 4).drop (32 * 2)).take 32).all fun l => cellIn 4 2 l) = true := by decide +kernel
theorem cell_4_2_3 : ((((allWishes 4).drop (32 * 3)).take 32).all fun l => cellIn 4 2 l) = true := by decide +kernel
theorem cell_4_2_4 : ((((allWishes 4).drop (32 * 4)).take 32).all fun l => cellIn 4 2 l) = true := by decide +kernel
theorem cell_4_2_5 : ((((allWishes 4).drop (32 * 5)).take 32).all fun l => cellIn 4 2 l) = true := by decide +kernel
theorem cell_4_2_6 : ((((allWishes 4).drop (32 * 6)).take 32).all fun l => cellIn 4 2 l) = true := by decide +kernel
theorem cell_4_2_7 : ((((allWishes 4).drop (32 * 7)).take 32).all fun l => cellIn 4 2 l) = true := by decide +kernel
theorem cells_4_2 : ((allWishes 4).all fun l => cellIn 4 2 l) = true := chunk_all 32 8 (by decide) (by decide +kernel) fun i hi => match i, hi with
  | 0, _ => cell_4_2_0
  | 1, _ => cell_4_2_1
  | 2, _ => cell_4_2_2
  | 3, _ => cell_4_2_3
  | 4, _ => cell_4_2_4
  | 5, _ => cell_4_2_5
  | 6, _ => cell_4_2_6
  | 7, _ => cell_4_2_7
  | i + 8, h => absurd h (by omega)
theorem cell_4_3_0 : ((((allWishes 4).drop (32 * 0)).take 32).all fun l => cellIn 4 3 l) = true := by decide +kernel
theorem cell_4_3_1 : ((((allWishes 4).drop (32 * 1)).take 32).all fun l => cellIn 4 3 l) = true := by decide +kernel
theorem cell_4_3_2 : ((((allWishes 4).drop (32 * 2)).take 32).all fun l => cellIn 4 3 l) = true := by decide +kernel
theorem cell_4_3_3 : ((((allWishes 4).drop (32 * 3)).take 32).all fun l => cellIn 4 3 l) = true := by decide +kernel
theorem cell_4_3_4 : ((((allWishes 4).drop (32 * 4)).take 32).all fun l => cellIn 4 3 l) = true := by decide +kernel
theorem cell_4_3_5 : ((((allWishes 4).drop (32 * 5)).take 32).all fun l => cellIn 4 3 l) = true := by decide +kernel
theorem cell_4_3_6 : ((((allWishes 4).drop (32 * 6)).take 32).all fun l => cellIn 4 3 l) = true := by decide +kernel
theorem cell_4_3_7 : ((((allWishes 4).drop (32 * 7)).take 32).all fun l => cellIn 4 3 l) = true := by decide +kernel
theorem cells_4_3 : ((allWishes 4).all fun l => cellIn 4 3 l) = true := chunk_all 32 8 (by decide) (by decide +kernel) fun i hi => match i, hi with
  | 0, _ => cell_4_3_0
  | 1, _ => cell_4_3_1
  | 2, _ => cell_4_3_2
  | 3, _ => cell_4_3_3
  | 4, _ => cell_4_3_4
  | 5, _ => cell_4_3_5
  | 6, _ => cell_4_3_6
  | 7, _ => cell_4_3_7
  | i + 8, h => absurd h (by omega)
theorem cells_2_0 : ((allWishes 2).all fun l => cellIn 2 0 l) = true := by decide +kernel
theorem cells_2_1 : ((allWishes 2).all fun l => cellIn 2 1 l) = true := by decide +kernel
end Lk

/-! LkK1 -/
set_option Elab.async false
set_option linter.all false
set_option maxRecDepth 100000
set_option maxHeartbeats 4000000
set_option autoImplicit false
/-! Things of a heap that lie apart; expressions and statements that change them. -/
namespace Lk
open PySem PySem.Spec PyProof.Rows L2
open Ty (r)
/-- a thing: what it asks of its own part of the heap -/
structure Th where
  p : Hp → Prop
  mono : ∀ {C C'}, Same C C' → p C → p C'
/-- the things lie in the heap, apart from one another but for tuples -/
def Sep : List Th → Hp → Prop
  | [], _ => True
  | T :: Ts, H => ∃ Hc, Same Hc H ∧ T.p (cut Hc H) ∧ Sep Ts Hc
theorem Sep.mono : ∀ {Ts : List Th} {H H' : Hp}, Same H H' → Sep Ts H → Sep Ts H'
  | [], _, _, _, _ => trivial
  | T :: Ts, H, H', s, ⟨Hc, h1, h2, h3⟩ => ⟨Hc, Same.trans h1 s, T.mono (cut_mono s) h2, h3⟩
theorem Sep.at0 {T : Th} {Ts : List Th} {H : Hp} (h : Sep (T :: Ts) H) : T.p H := let ⟨Hc, h1, h2, _⟩ := h; T.mono (cut_some h1) h2
theorem Sep.drop {T : Th} {Ts : List Th} {H : Hp} (h : Sep (T :: Ts) H) : Sep Ts H := let ⟨Hc, h1, _, h3⟩ := h; h3.mono h1
theorem Sep.weak {T T' : Th} {Ts : List Th} {H : Hp} (h : Sep (T :: Ts) H) (k : ∀ C, T.p C → T'.p C) : Sep (T' :: Ts) H := let ⟨Hc, h1, h2, h3⟩ := h; ⟨Hc, h1, k _ h2, h3⟩
theorem Sep.new {T : Th} {Ts : List Th} {H H' : Hp} (h : Sep Ts H) (s : Same H H') (ht : T.p (cut H H')) : Sep (T :: Ts) H' := ⟨H, s, ht, h⟩
/-- H less what U's part has -/
def rest2 (Hd Hc H : Hp) : Hp := fun b => match Hd b, Hc b with
  | none, some (.tup _) => H b
  | none, some _ => none
  | _, _ => H b
theorem Sep.swap {T U : Th} {Ts : List Th} {H : Hp} (h : Sep (T :: U :: Ts) H) : Sep (U :: T :: Ts) H := by
  obtain ⟨Hc, h1, h2, Hd, h3, h4, h5⟩ := h
  have le : Same (rest2 Hd Hc H) H := fun b o e => by
    unfold rest2 at e
    split at e <;> first
      | exact e
      | cases e
  have d1 : ∀ b, Hd b ≠ none → rest2 Hd Hc H b = H b := fun b n => by
    unfold rest2
    cases hd : Hd b with
    | none => exact absurd hd n
    | some u => cases Hc b <;> rfl
  have d2 : ∀ b, Hd b = none → Hc b = none → rest2 Hd Hc H b = H b := fun b n m => by
    unfold rest2
    rw [n, m]
  have d3 : ∀ b xs, Hd b = none → Hc b = some (.tup xs) → rest2 Hd Hc H b = H b := fun b xs n m => by
    unfold rest2
    rw [n, m]
  have d4 : ∀ b u, Hd b = none → Hc b = some u → (∀ xs, u ≠ .tup xs) → rest2 Hd Hc H b = none := fun b u n m nt => by
    unfold rest2
    rw [n, m]
    cases u <;> first
      | rfl
      | exact absurd rfl (nt _)
  refine ⟨rest2 Hd Hc H, le, U.mono (fun b o e => ?_) h4, Hd, fun b o e => ?_, T.mono (fun b o e => ?_) h2, h5⟩
  · unfold cut at e ⊢
    cases hd : Hd b with
    | none =>
      rw [hd] at e
      have e : Hc b = some o := e
      have eH := h1 _ _ e
      by_cases ht : ∃ xs, o = .tup xs
      · obtain ⟨xs, rfl⟩ := ht
        rw [d3 b xs hd e, eH]
      · rw [d4 b o hd e fun xs z => ht ⟨xs, z⟩]
        exact eH
    | some u =>
      rw [hd] at e
      rw [d1 b (by rw [hd]; simp), h1 _ _ (h3 _ _ hd)]
      cases u <;> first
        | (cases e; done)
        | exact e
  · rw [d1 b (by rw [e]; simp)]
    exact h1 _ _ (h3 _ _ e)
  · unfold cut at e ⊢
    cases hc : Hc b with
    | none =>
      rw [hc] at e
      have hd : Hd b = none := Same.free h3 hc
      rw [hd]
      show rest2 Hd Hc H b = _
      rw [d2 b hd hc]
      exact e
    | some u =>
      rw [hc] at e
      have eH := h1 _ _ hc
      cases u <;> first
        | (cases e; done)
        | skip
      cases e
      cases hd : Hd b with
      | none =>
        show rest2 Hd Hc H b = _
        rw [d3 b _ hd hc]
        exact eH
      | some u =>
        have := h3 _ _ hd
        rw [hc] at this
        cases this
        rfl
theorem erase_perm {α : Type} : ∀ (l : List α) (i : Nat) (h : i < l.length), (l[i] :: l.eraseIdx i).Perm l
  | [], _, h => by simp at h
  | x :: l, 0, _ => List.Perm.refl _
  | x :: l, i + 1, h => (List.Perm.swap _ _ _).trans ((erase_perm l i (by simpa using h)).cons x)
theorem Sep.perm {Ts Us : List Th} (p : Ts.Perm Us) : ∀ {H : Hp}, Sep Ts H → Sep Us H := by
  induction p with
  | nil => exact fun _ => trivial
  | cons T _ ih => exact fun ⟨Hc, h1, h2, h3⟩ => ⟨Hc, h1, h2, ih h3⟩
  | swap T U l => exact fun h => h.swap
  | trans _ _ ih1 ih2 => exact fun h => ih2 (ih1 h)
theorem Sep.front {Ts Us : List Th} {T : Th} (i : Nat) {H : Hp} (h : Sep Ts H) (e : Ts[i]? = some T := by rfl) (e2 : Ts.eraseIdx i = Us := by rfl) : Sep (T :: Us) H := by
  subst e2
  obtain ⟨hi, rfl⟩ := List.getElem?_eq_some_iff.mp e
  exact Sep.perm (erase_perm _ _ hi).symm h
theorem Sep.back {Ts Us : List Th} {T : Th} (i : Nat) {H : Hp} (h : Sep (T :: Us) H) (e : Ts[i]? = some T := by rfl) (e2 : Ts.eraseIdx i = Us := by rfl) : Sep Ts H := by
  subst e2
  obtain ⟨hi, rfl⟩ := List.getElem?_eq_some_iff.mp e
  exact Sep.perm (erase_perm _ _ hi) h
theorem Sep.get {Ts : List Th} {T : Th} (i : Nat) {H : Hp} (h : Sep Ts H) (e : Ts[i]? = some T := by rfl) : T.p H := (h.front i e rfl).at0
theorem Sep.del {Ts Us : List Th} (i : Nat) {H : Hp} (h : Sep Ts H) (e : i < Ts.length := by simp) (e2 : Ts.eraseIdx i = Us := by rfl) : Sep Us H := (h.front i (List.getElem?_eq_getElem e) e2).drop
/-- a value -/
def ValT {α : Type} [Ty α] (v : V) (x : α) : Th := ⟨fun C => r x v C, fun s h => Ty.mono s h⟩
/-- what else there is -/
def FrT (Hc : Hp) : Th := ⟨fun C => Same Hc C, fun s h => Same.trans h s⟩
/-- the tuples of an earlier heap -/
def TupT (He : Hp) : Th := ⟨fun C => KeepT He C, fun s h => KeepT.trans h (keepT s)⟩
def PotT (q : Addr) (n : Int) : Th := ⟨fun C => PotAt q n C, fun s h => h.mono s⟩
def HouT {K : PySem.W.Frag} (p : Addr) (h : Hou K) : Th := ⟨fun C => HouAt K h p C, fun s x => x.mono s⟩
theorem keep_self (H : Hp) : KeepT H (cut H H) := keep_cut (Same.refl H)
theorem Sep.im {α : Type} [Im α] {v : V} {x : α} {Ts : List Th} {H : Hp} (h : Sep Ts H) (k : r x v H) : Sep (ValT v x :: Ts) H := ⟨H, Same.refl H, Im.keep (keep_self H) k, h⟩
theorem Sep.tups {Ts : List Th} {H : Hp} (h : Sep Ts H) : Sep (TupT H :: Ts) H := ⟨H, Same.refl H, keep_self H, h⟩
theorem cut_none {H : Hp} : cut (fun _ => none) H = H := rfl
theorem Sep.ofFr {T : Th} {Hc H : Hp} (s : Same Hc H) (h : T.p (cut Hc H)) : Sep [T, FrT Hc] H := ⟨Hc, s, h, fun _ => none, fun _ _ e => (nomatch e), Same.refl Hc, trivial⟩
theorem Sep.toFr {T : Th} {Hc H : Hp} {Ts : List Th} (h : Sep (T :: FrT Hc :: Ts) H) : Same Hc H ∧ T.p (cut Hc H) := by
  obtain ⟨Hd, h1, h2, h3⟩ := h
  have s : Same Hc Hd := Sep.at0 h3
  exact ⟨Same.trans s h1, T.mono (cut_anti s h1) h2⟩
/-! ### slots that no change touches -/
class ImG (G : List Slot) : Prop where
  get : ∀ (i : Nat) (s : Slot), G[i]? = some s → (¬ s.isOwn) ∧ ∀ H0 H0' v H H', KeepT H H' → s.ok H0 v H → s.ok H0' v H'
instance : ImG [] := ⟨fun i s e => by simp at e⟩
instance {α : Type} [Im α] {a : α} {G : List Slot} [g : ImG G] : ImG (.im a :: G) := ⟨fun i s e => by
  cases i with
  | zero => cases e; exact ⟨fun z => z, fun _ _ v H H' k q => Im.keep k q⟩
  | succ i => exact g.get i s e⟩
instance {G : List Slot} [g : ImG G] : ImG (.no :: G) := ⟨fun i s e => by
  cases i with
  | zero => cases e; exact ⟨fun z => z, fun _ _ v H H' k q => trivial⟩
  | succ i => exact g.get i s e⟩
theorem imG_set {G : List Slot} {j : Nat} {t : Slot} (g : ImG G) (ht : (¬ t.isOwn) ∧ ∀ H0 H0' v H H', KeepT H H' → t.ok H0 v H → t.ok H0' v H') : ImG (G.set j t) := ⟨fun i s e => by
  rw [List.getElem?_set] at e
  split at e
  · split at e
    · cases e; exact ht
    · cases e
  · exact g.get i s e⟩
instance {α : Type} [Im α] {a : α} {G : List Slot} {j : Nat} [g : ImG G] : ImG (G.set j (.im a)) := imG_set g ⟨fun z => z, fun _ _ v H H' k q => Im.keep k q⟩
instance {G : List Slot} {j : Nat} [g : ImG G] : ImG (G.set j .no) := imG_set g ⟨fun z => z, fun _ _ v H H' k q => trivial⟩
instance imG_wipe {G : List Slot} [g : ImG G] : ∀ {vs : List Nat}, ImG (wipeG G vs)
  | [] => g
  | v :: vs => imG_set (imG_wipe (G := G) (vs := vs)) ⟨fun z => z, fun _ _ v H H' k q => trivial⟩
theorem At.ims {H0 H H' H0' : Hp} {G : List Slot} {σ : L2.St} (h : At H0 G σ H) (g : ImG G) (k : KeepT H H') (s : Same H0' H') : At H0' G σ H' := by
  refine ⟨h.len, fun i t e => ?_, fun i j t u v e1 e2 o1 o2 _ _ => absurd o1 (g.get i t e1).1, s⟩
  obtain ⟨o, e1, e2⟩ := h.at_ i t e
  refine ⟨o, e1, ?_⟩
  by_cases hn : t = .no
  · subst hn; trivial
  · obtain ⟨v, ev, q⟩ := Slot.at_get e2 hn
    rw [ev]
    exact Slot.at_some ((g.get i t e).2 _ _ v _ _ k q)
theorem At.self {H0 H : Hp} {G : List Slot} {σ : L2.St} (h : At H0 G σ H) (g : ImG G) : At H G σ H := h.ims g (KeepT.refl H) (Same.refl H)
/-! ### judgements -/
def ES (X : Cx) (G : List Slot) (e : Expr) (Ts : List Th) (R : V → Hp → Prop) : Prop := ∀ σ H Q, At H G σ H → Sep Ts H → (∀ v H', KeepT H H' → R v H' → Q v H') → tE X e σ H Q
def ESt (X : Cx) (G : List Slot) (e : Expr) (Ts : List Th) (R : Bool → Hp → Prop) : Prop := ∀ σ H Q, At H G σ H → Sep Ts H → (∀ b H', KeepT H H' → R b H' → Q b H') → tT X e σ H Q
def EAS (X : Cx) (G : List Slot) (es : List Expr) (Ts : List Th) (R : List V → Hp → Prop) : Prop := ∀ σ H Q, At H G σ H → Sep Ts H → (∀ vs H', KeepT H H' → R vs H' → Q vs H') → tA X es σ H Q
section
variable {X : Cx} {H0 : Hp} {G : List Slot} {e a b c o : Expr} {es : List Expr} {pos p p1 apos : Pos} {Ts Us : List Th} {R R' : V → Hp → Prop} {D : Ends} {rest body els : List Stmt}
theorem ES.weak (h : ES X G e Ts R) (k : ∀ v H, R v H → R' v H) : ES X G e Ts R' := fun σ H Q a s q => h σ H Q a s fun v H' kt r => q v H' kt (k v H' r)
theorem ES.pre (h : ES X G e Us R) (k : ∀ H, Sep Ts H → Sep Us H) : ES X G e Ts R := fun σ H Q a s q => h σ H Q a (k H s) q
theorem es_val {α : Type} [Im α] {x : α} (h : ∀ H0, Sep Ts H0 → E X H0 G e (Val x)) : ES X G e Ts (fun v H' => Sep (ValT v x :: Ts) H') := fun σ H Q a s q =>
  h H s σ H Q a fun v H' s1 p1 => q v H' (keepT s1) (Sep.im (s.mono s1) p1)
theorem es_new {α : Type} [Ty α] {x : α} (h : ∀ H0, Sep Ts H0 → E X H0 G e (New x)) : ES X G e Ts (fun v H' => Sep (ValT v x :: Ts) H') := fun σ H Q a s q =>
  h H s σ H Q a fun v H' s1 p1 => q v H' (keepT s1) (Sep.new (T := ValT v x) s s1 p1)
theorem est_pure {k : Bool} (h : ∀ H0, Sep Ts H0 → ET X H0 G e k) : ESt X G e Ts (fun b H' => b = k ∧ Sep Ts H') := fun σ H Q a s q =>
  h H s σ H Q a fun H' s1 => q k H' (keepT s1) ⟨rfl, s.mono s1⟩
theorem es_if {k : Bool} (hc : ∀ H0, Sep Ts H0 → ET X H0 G c k) (ha : k = true → ES X G a Ts R) (hb : k = false → ES X G b Ts R) [g : ImG G] : ES X G (.IfExp c a b pos) Ts R := fun σ H Q h0 s q =>
  pe_out (pe_ifExp pt_in pe_in pe_in) (hc H s σ H _ h0 fun H1 s1 => by
    cases k with
    | true => exact ha rfl σ H1 Q (h0.ims g (keepT s1) (Same.refl H1)) (s.mono s1) fun v H2 k2 p => q v H2 (KeepT.trans (keepT s1) k2) p
    | false => exact hb rfl σ H1 Q (h0.ims g (keepT s1) (Same.refl H1)) (s.mono s1) fun v H2 k2 p => q v H2 (KeepT.trans (keepT s1) k2) p)
theorem eas_nil : EAS X G [] Ts (fun vs H => vs = [] ∧ Sep Ts H) := fun σ H Q a s q => pa_out pa_nil (q [] H (KeepT.refl H) ⟨rfl, s⟩)
theorem eas_cons {A : Type} {Fs : A → List Th} {φ : A → V → Prop} {R2 : A → V → List V → Hp → Prop} [g : ImG G] (ha : ES X G e Ts (fun v H => ∃ x, φ x v ∧ Sep (Fs x) H)) (hr : ∀ x v, φ x v → EAS X G es (Fs x) (R2 x v))
    (hs : starEach (e :: es) X.env = (false, eval e X.env) :: starEach es X.env := by rfl) : EAS X G (e :: es) Ts (fun vs H => ∃ x v ws, vs = v :: ws ∧ φ x v ∧ R2 x v ws H) := fun σ H Q h0 s q =>
  pa_out (pa_cons pe_in pa_in hs) (ha σ H _ h0 s fun v H1 k1 ⟨x, f, s1⟩ => hr x v f σ H1 _ (h0.ims g k1 (Same.refl H1)) s1 fun ws H2 k2 r2 => q (v :: ws) H2 (KeepT.trans k1 k2) ⟨x, v, ws, rfl, f, r2⟩)
/-! ### statements -/
theorem bs_set (i : Nat) {n : Str} {p' : Pos} [g : ImG G] (hS : Sep Ts H0) (he : ES X G e Ts R) (hr : ∀ v H1, R v H1 → ∃ (α : Type) (_ : Im α) (x : α), r x v H1 ∧ B X H1 (G.set i (.im x)) rest D) (hN : X.N.Nodup) (hi : X.N[i]? = some n := by rfl) (hx : Loc X.env.scope n := by first | exact Or.inl rfl | exact Or.inr rfl) (hs : swapsWith e (some (.Name n p')) pos.line X.env = pure false := by rfl)
    (hf : X.fn n = true ∨ X.env.scope.names.lookup n = some .local := by first | exact .inl rfl | exact .inr rfl) : B X H0 G (.Assign [.Name n p'] e pos :: rest) D := B.seq fun σ H h0 => ps_out (ps_set hN hi hx pe_in hs hf) (he σ H _ (h0.self g) (hS.mono h0.same) fun v H1 k1 r1 => by
  obtain ⟨α, iα, x, rx, hb⟩ := hr v H1 r1
  exact hb _ H1 ((h0.ims g k1 (Same.refl H1)).set (s := .im x) rx fun z => z))
theorem bs_drop [g : ImG G] (hS : Sep Ts H0) (he : ES X G e Ts R) (hr : ∀ v H1, R v H1 → B X H1 G rest D) (hs : swapsWith e none pos.line X.env = pure false := by rfl) : B X H0 G (.Expr e pos :: rest) D := B.seq fun σ H h0 => ps_out (ps_expr pe_in hs) (he σ H _ (h0.self g) (hS.mono h0.same) fun v H1 k1 r1 => hr v H1 r1 σ H1 (h0.ims g k1 (Same.refl H1)))
theorem bs_ret [g : ImG G] (hS : Sep Ts H0) (he : ES X G e Ts R) (hr : ∀ v H1, R v H1 → D.rt v H1) : B X H0 G (.Return (some e) pos :: rest) D := B.seq fun σ H h0 => ps_out (ps_ret pe_in) (he σ H _ (h0.self g) (hS.mono h0.same) fun v H1 k1 r1 => hr v H1 r1)
theorem bs_if [g : ImG G] {Rb : Bool → Hp → Prop} (hS : Sep Ts H0) (hc : ESt X G c Ts Rb) (h1 : ∀ H1, Rb true H1 → B X H1 G body { D with nx := fun σ H => tB X rest D σ H }) (h2 : ∀ H1, Rb false H1 → B X H1 G els { D with nx := fun σ H => tB X rest D σ H }) : B X H0 G (.If c body els pos :: rest) D := B.seq fun σ H h0 => ps_out (ps_if pt_in pss_in pss_in) (hc σ H _ (h0.self g) (hS.mono h0.same) fun k H1 k1 r1 => by
  cases k with
  | true => exact h1 H1 r1 σ H1 (h0.ims g k1 (Same.refl H1))
  | false => exact h2 H1 r1 σ H1 (h0.ims g k1 (Same.refl H1)))
theorem bs_end (hS : Sep Ts H0) (h : ∀ σ H, At H0 G σ H → Sep Ts H → D.nx σ H) : B X H0 G [] D := b_nil fun σ H a => h σ H a (hS.mono a.same)
/-! ### calls -/
theorem es_call {sp : Sp} {k m : Nat} {x : Str} {ps : List Str} {Ra : List V → Hp → Prop} [g : ImG G] (F : Cal X.prog X.w X.K X.mg X.base k x ps sp) (hr : Room m X.A) (ha : EAS X G (e :: es) Ts Ra)
    (hsp : ∀ vs H Q, Ra vs H → (∀ v H', KeepT H H' → R v H' → Q v H') → sp vs H Q E0) (hk : k ≤ m := by decide) (hg : Gl X x := by rfl) (hdb : (x == ("__debug__" : Str)) = false := by decide)
    (he : starEach (e :: es) X.env = (false, eval e X.env) :: starEach es X.env := by rfl) (hpl : (backTo pos (starEach es X.env)).any (·.1) = false := by rfl) : ES X G (.Call (.Name x p) (e :: es) [] pos) Ts R := fun σ H Q h0 s q => by
  obtain ⟨f, fd, F1, F2, F3, F4⟩ := F.ex
  refine pe_out (pe_call F1 (hr.mono hk) hg F2 F3 F4 .nil pass0 pa_in hdb he hpl) (ha σ H _ h0 s fun vs H1 k1 r1 => ?_)
  show sp (vs ++ []) H1 Q E0
  rw [List.append_nil]
  exact hsp vs H1 Q r1 fun v H2 k2 r2 => q v H2 (KeepT.trans k1 k2) r2
end
end Lk

/-! LkK2 -/
set_option Elab.async false
set_option linter.all false
set_option maxRecDepth 100000
set_option maxHeartbeats 4000000
set_option autoImplicit false
/-! Loops and comprehensions that change things; methods of a house. -/
namespace Lk
open PySem PySem.Spec PyProof.Rows L2
open Ty (r)
/-- the walk of l, while the heap is one of S -/
structure WkS {γ : Type} [Im γ] (l : List γ) (J : It) (S : Hp → Prop) : Prop where
  ex : ∃ (Gd : Hp → Prop) (Y : Nat → Hp → V → Hp → Prop), Walk J l.length Gd Y ∧ (∀ H, S H → Gd H) ∧ ∀ i H v H', S H → Y i H v H' → i < l.length → Same H H' ∧ ∃ x, l[i]? = some x ∧ r x v H'
def EIS (X : Cx) (G : List Slot) (tg iter : Expr) {γ : Type} [Im γ] (l : List γ) (Ts : List Th) (T0 : Th) (Us : List Th) : Prop := ∀ σ H Rr, At H G σ H → Sep Ts H → (∀ J H1 (T : Th), KeepT H H1 → Sep (T :: Us) H1 → (∀ C, T.p C → T0.p C) → WkS l J T.p → Rr J H1) → tI X tg iter σ H Rr
def AnyT : Th := ⟨fun _ => True, fun _ _ => trivial⟩
theorem Sep.any {Ts : List Th} {H : Hp} (h : Sep Ts H) : Sep (AnyT :: Ts) H := ⟨H, Same.refl H, trivial, h⟩
/-- a list by its address and its values -/
def LstT {γ : Type} [Ty γ] (q : Addr) (xs : List V) (l : List γ) : Th := ⟨fun C => C q = some (.lst xs) ∧ A2 l xs C, fun s h => ⟨s _ _ h.1, A2.mono (l := l) s h.2⟩⟩
theorem Sep.lstT {γ : Type} [Ty γ] {l : List γ} {v : V} {Us : List Th} {H : Hp} (h : Sep (ValT v (Lst.mk l) :: Us) H) : ∃ q xs, v = .ref q ∧ Sep (LstT q xs l :: Us) H := by
  obtain ⟨Hc, h1, ⟨q, xs, e, h2, h3⟩, h4⟩ := h
  exact ⟨q, xs, e, Hc, h1, ⟨h2, h3⟩, h4⟩
theorem lst_walk {K : PySem.W.Frag} {γ : Type} [Im γ] {l : List γ} {q : Addr} {xs : List V} (e3 : l.length = xs.length) : WkS l (Itl K q) (LstT q xs l).p := ⟨fun H => SqL K H q xs, YAt xs, by rw [e3]; exact walk_list, fun H h => .inl (.inl h.1), fun i H v H' ⟨h1, h2⟩ ⟨y1, y2⟩ hi => by
  subst y1
  obtain ⟨x, y3, y4⟩ := Paired.get2 h2 y2
  exact ⟨Same.refl _, x, y3, y4⟩⟩
theorem enum_walk {K : PySem.W.Frag} {γ : Type} [Im γ] {l : List γ} {q : Addr} {xs : List V} (e3 : l.length = xs.length) : WkS (enm l) (Ite K q) (LstT q xs l).p := ⟨fun H => SqL K H q xs, YPair (fun i => some (.int (i : Nat))) (fun i => xs[i]?), by rw [enm_len, e3]; exact walk_enum, fun H h => .inl (.inl h.1), fun i H v H' ⟨h1, h2⟩ ⟨T, x1, x2, z1, z2, z3, z4, z5⟩ hi => by
  subst z1 z3
  have z4 : some (V.int ((i : Nat) : Int)) = some x1 := z4
  cases z4
  obtain ⟨x, y3, y4⟩ := Paired.get2 h2 z5
  have sn := Same.new (o := .tup [.int ((i : Nat) : Int), x2]) z2
  exact ⟨sn, _, enm_get y3, T, _, _, rfl, upd_same, rfl, Ty.mono sn y4⟩⟩
section
variable {X : Cx} {H0 : Hp} {G : List Slot} {e a b c o tg : Expr} {es elts : List Expr} {pos p p1 apos tpos : Pos} {kk : Nat} {Ts Us : List Th} {R R' : V → Hp → Prop} {D : Ends} {rest body els : List Stmt}
theorem eis_rng1 {x : Int} (hm : X.mg "range" = none) (ha : ∀ H0, Sep Ts H0 → E X H0 G a (Val x)) (hb : -(2 ^ 62) ≤ x ∧ x < 2 ^ 62) (hg : Gl X "range" := by rfl) (hs : starEach [a] X.env = [(false, eval a X.env)] := by rfl) : EIS X G tg (.Call (.Name "range" p) [a] [] pos) (rng 0 x.toNat) Ts AnyT Ts := fun σ H Rr h0 s q =>
  pi_out (pi_range1 hg hm (pa_cons pe_in pa_nil hs) hs) (ha H s σ H _ h0 fun v H1 s1 p1 => by
    have p1 : v = .int x := p1
    subst p1
    refine ⟨x, rfl, hb.1, hb.2, q _ H1 AnyT (keepT s1) (s.mono s1).any (fun _ h => h) ?_⟩
    obtain ⟨Gd, Y, w, wg, wy⟩ := (rng_walk (lo := 0) (n := x.toNat) (Hc := fun _ => none)).ex
    exact ⟨Gd, Y, w, fun H _ => wg H (fun _ _ e => nomatch e), fun i H v H' _ y hi => wy i H v H' (fun _ _ e => nomatch e) y hi⟩)
/-- a new list -/
theorem eis_new {γ : Type} [Im γ] {iter : Expr} {l : List γ} (h : ES X G iter Ts (fun v H => Sep (ValT v (Lst.mk l) :: Us) H)) : EIS X G tg iter l Ts AnyT Us := fun σ H Rr h0 s q => pi_out (pi_list pe_in) (h σ H _ h0 s fun v H1 k1 s1 => by
  obtain ⟨A, xs, rfl, s2⟩ := s1.lstT
  obtain ⟨g1, g2⟩ := s2.at0
  exact ⟨A, rfl, ⟨xs, .inl (.inl g1)⟩, q _ H1 _ k1 s2 (fun _ _ => trivial) (lst_walk (A2.len (l := l) g2))⟩)
/-- a list of the things -/
theorem eis_lst {γ : Type} [Im γ] {iter : Expr} {l : List γ} {L : Addr} (h : ∀ H0, Sep Ts H0 → E X H0 G iter (Val (Adr.mk L))) (hp : ∀ H, Sep Ts H → Sep (ValT (.ref L) (Lst.mk l) :: Us) H) : EIS X G tg iter l Ts (ValT (.ref L) (Lst.mk l)) Us := fun σ H Rr h0 s q => pi_out (pi_list pe_in) (h H s σ H _ h0 fun v H1 s1 p1 => by
  have p1 : v = .ref L := p1
  subst p1
  obtain ⟨A, xs, e, s2⟩ := (hp H1 (s.mono s1)).lstT
  cases e
  obtain ⟨g1, g2⟩ := s2.at0
  exact ⟨L, rfl, ⟨xs, .inl (.inl g1)⟩, q _ H1 _ (keepT s1) s2 (fun C hC => ⟨L, xs, rfl, hC⟩) (lst_walk (A2.len (l := l) g2))⟩)
theorem eis_enum {γ : Type} [Im γ] {l : List γ} {L : Addr} (hm : X.mg "enumerate" = none) (h : ∀ H0, Sep Ts H0 → E X H0 G e (Val (Adr.mk L))) (hp : ∀ H, Sep Ts H → Sep (ValT (.ref L) (Lst.mk l) :: Us) H) (hg : Gl X "enumerate" := by rfl) (hst : starEach [e] X.env = [(false, eval e X.env)] := by rfl) : EIS X G (.Tuple elts kk tpos) (.Call (.Name "enumerate" p) [e] [] p1) (enm l) Ts (ValT (.ref L) (Lst.mk l)) Us := fun σ H Rr h0 s q =>
  pi_out (pi_enum hg hm (pa_cons pe_in pa_nil hst) hst) (h H s σ H _ h0 fun v H1 s1 p1 => by
  have p1 : v = .ref L := p1
  subst p1
  obtain ⟨A, xs, e, s2⟩ := (hp H1 (s.mono s1)).lstT
  cases e
  obtain ⟨g1, g2⟩ := s2.at0
  exact ⟨L, xs, rfl, .inl (.inl g1), q _ H1 _ (keepT s1) s2 (fun C hC => ⟨L, xs, rfl, hC⟩) (enum_walk (A2.len (l := l) g2))⟩)
/-! ### for -/
def FS (T : Th) (S : List Th → Prop) (G : List Slot) (σ : L2.St) (H : Hp) : Prop := ∃ Us, S Us ∧ Sep (T :: Us) H ∧ At H G σ H
theorem bs_for {iter : Expr} {γ : Type} [Im γ] {l : List γ} {js : List Nat} {up : γ → List Slot → List Slot} {T0 : Th} (Gs : Nat → List Slot) (gs : ∀ i, ImG (Gs i)) [g : ImG G] (Ss : Nat → List Th → Prop) (hS : Sep Ts H0) (hi : EIS X G tg iter l Ts T0 Us) (ht : Tgt X tg js up) (hsub : Sub G (Gs 0)) (h0 : Ss 0 Us)
    (hs : ∀ (T : Th) i x H Ws, l[i]? = some x → Ss i Ws → Sep (T :: Ws) H → B X H (up x (Gs i)) body { D with nx := FS T (Ss (i + 1)) (Gs (i + 1)), ct := FS T (Ss (i + 1)) (Gs (i + 1)), bk := fun σ H => tB X rest D σ H })
    (hd : ∀ H Ws, Ss l.length Ws → Sep (T0 :: Ws) H → B X H (Gs l.length) rest D) (hp : PassesOwn (model X.prog X.w) X.A X.env X.xe) (hc : X.calm = true := by rfl) (hf : ∀ x, foldedSetIterable iter X.env x = pure x := by intro _; rfl) : B X H0 G (.For tg iter body [] pos :: rest) D :=
  B.seq fun σ H a0 => ps_out (ps_for hp hc pi_in pg_in pss_in hf) (hi σ H _ (a0.self g) (hS.mono a0.same) fun J H1 T k1 s1 kT ⟨Gd, Y, w, wg, wy⟩ => by
    have a1 := a0.ims g k1 (Same.refl H1)
    refine for_it w (fun i σ' H' => FS T (Ss i) (Gs i) σ' H') ⟨Us, h0, s1, a1.sub hsub⟩ (fun i σ' H' _ ⟨Ws, z1, z2, z3⟩ => wg H' z2.at0) (fun i v σ' H' H2 hil ⟨Ws, z1, z2, z3⟩ y => ?_) fun σ' H' ⟨Ws, z1, z2, z3⟩ => hd H' Ws z1 (z2.weak kT) σ' H' z3
    obtain ⟨s2, x, e1, e2⟩ := wy i H' v H2 z2.at0 y hil
    refine ht x v σ' _ _ H2 _ e2 (z3.ims (gs i) (keepT s2) (Same.refl H2)) fun σ2 q2 _ => ?_
    exact hs T i x H2 Ws e1 z1 (z2.mono s2) σ2 H2 q2)
theorem bs_fin {T : Th} {S : List Th → Prop} {Ws : List Th} {G' : List Slot} {rt : V → Hp → Prop} {bk ct : L2.St → Hp → Prop} [g : ImG G] (hS : Sep (T :: Ws) H0) (h : S Ws) (hsub : Sub G G') : B X H0 G [] { nx := FS T S G', rt := rt, bk := bk, ct := ct } := b_nil fun σ H a => ⟨Ws, h, hS.mono a.same, (a.self g).sub hsub⟩
/-! ### comprehensions -/
theorem Sep.push {α : Type} [Im α] {D : Addr} {y : V} {x : α} {as : List α} {Fs : List Th} {H : Hp} (h : Sep (ValT y x :: ValT (.ref D) (Lst.mk as) :: Fs) H) : ∃ acc : List V, H D = some (.lst acc) ∧ acc.length = as.length ∧ KeepT H (upd H D (.lst (acc ++ [y]))) ∧ Sep (ValT (.ref D) (Lst.mk (as ++ [x])) :: Fs) (upd H D (.lst (acc ++ [y]))) := by
  have rx : r x y H := h.at0
  obtain ⟨Hc, h1, ⟨D', xs, e, h2, h3⟩, h4⟩ := h.swap
  cases e
  have hD := cut_some h1 _ _ h2
  have nD := new_free h2 fun _ z => nomatch z
  have kt : KeepT H (upd H D (.lst (xs ++ [y]))) := fun b ys e => by
    have ne : b ≠ D := fun z => by subst z; rw [hD] at e; cases e
    rw [upd_ne ne]; exact e
  have k2 : KeepT H (cut Hc (upd H D (.lst (xs ++ [y])))) := fun b ys e => by
    have := kt b ys e
    unfold cut
    cases hb : Hc b with
    | none => exact this
    | some u =>
      have hu := h1 _ _ hb
      rw [e] at hu
      cases hu
      rfl
  refine ⟨xs, hD, (A2.len (l := as) h3).symm, kt, Hc, Same.cutU h1 nD, ⟨D, xs ++ [y], rfl, cut_new nD upd_same, Paired.app (A2.keep (l := as) (KeepT.trans (keepT (cut_some h1)) k2) h3) (.cons (Im.keep k2 rx) .nil)⟩, h4.drop⟩
theorem es_lc {iter elt : Expr} {scope : Scope} {γ α : Type} [Im γ] [Im α] {l : List γ} {js : List Nat} {up : γ → List Slot → List Slot} {T0 : Th} (φ : Nat → α → Prop) (Fs : Nat → List Th) (own : List (Str × Nat)) [g : ImG G] (hN : X.N.Nodup) (hi : EIS X G tg iter l Ts T0 (Fs 0)) (hlen : l.length < 100000)
    (hg : ∀ (s : Shared) (H : Hp) (C : Addr) (cl : List (Str × Addr)) (fp : List Addr), Tgt (X.blk s H scope (compEnvC scope cl C X.env) fp) tg js up)
    (he : ∀ (s : Shared) (H : Hp) (C : Addr) (cl : List (Str × Addr)) (fp : List Addr) (T U : Th) i x, l[i]? = some x → ES (X.blk s H scope (compEnvC scope cl C X.env) fp) (up x (wipeG G (own.map (·.2)))) elt (Fs i ++ [T, U]) (fun y H' => ∃ a : α, φ i a ∧ Sep (ValT y a :: (Fs (i + 1) ++ [T, U])) H'))
    (ok : blkC X.N X.env.scope scope own = true := by kernel_rfl) (hj : ∀ j ∈ js, j ∈ own.map (·.2) := by decide) (hc : X.calm = true := by rfl) (hs : ∀ x, foldedSetIterable iter X.env x = pure x := by intro _; rfl) : ES X G (.ListComp elt [⟨tg, iter, [], 0⟩] scope pos) Ts (fun v H' => ∃ as : List α, as.length = l.length ∧ (∀ i a, as[i]? = some a → φ i a) ∧ Sep (ValT v (Lst.mk as) :: T0 :: Fs l.length) H') := fun σ H Q h0 s q =>
  pe_out (pe_lc (g := gB X scope tg) (te := eB X scope elt) hc hN pi_in (blkOk_by ok)
    (fun s H C cl fp => ⟨fun pins s1 σ1 H1 v u Q I rv h => h s H C cl fp pins s1 u I rv⟩) (fun _ _ _ _ _ => pts_nil) (fun s H C cl fp => ⟨fun pins s1 σ1 H1 Q I h => h s H C cl fp pins s1 I⟩) hs) (by
  refine hi σ H _ h0 s fun J H1 T k1 s1 kT ⟨Gd, Y, w, wg, wy⟩ => ?_
  intro Dl hD
  have a1 := (h0.ims g k1 (Same.refl H1)).wipe (own.map (·.2))
  have gw : ImG (wipeG G (own.map (·.2))) := imG_wipe
  have snD := Same.new (o := .lst []) hD
  refine lc_it w (Qd := Q (.ref Dl)) (fun i H' => KeepT H1 H' ∧ ∃ as : List α, as.length = i ∧ (∀ j a, as[j]? = some a → φ j a) ∧ Sep (ValT (.ref Dl) (Lst.mk as) :: T :: Fs i) H') ⟨keepT snD, [], rfl, fun j a e => by simp at e, Sep.new (T := ValT (.ref Dl) (Lst.mk ([] : List α))) s1 snD ⟨Dl, [], rfl, cut_new hD upd_same, .nil⟩⟩ (fun i H' _ ⟨_, as, z1, z2, z3⟩ => wg H' z3.drop.at0) (fun i v H' H2 hil ⟨z0, as, z1, z2, z3⟩ y => ?_) fun H' ⟨z0, as, z1, z2, z3⟩ => q _ H' (KeepT.trans k1 z0) ⟨as, z1, z2, (z3.swap.weak kT).swap⟩
  obtain ⟨s2, x, e1, e2⟩ := wy i H' v H2 z3.drop.at0 y hil
  intro s' H'' C cl fp
  refine hg s' H'' C cl fp x v _ _ _ H2 _ e2 (a1.ims gw (KeepT.trans z0 (keepT s2)) (Same.refl H2)) fun σ2 a3 hw => ⟨by rw [hw _ hj, wipe_wipe], ?_⟩
  unfold tYes
  refine iteT ?_
  intro s' H'' C' cl' fp'
  have hperm : ∀ (F : List Th), (ValT (.ref Dl) (Lst.mk as) :: T :: F).Perm (F ++ [T, ValT (.ref Dl) (Lst.mk as)]) := fun F => (List.Perm.swap _ _ _).trans (List.perm_append_comm (l₁ := [T, ValT (.ref Dl) (Lst.mk as)]) (l₂ := F))
  refine he s' H'' C' cl' fp' T (ValT (.ref Dl) (Lst.mk as)) i x e1 σ2 H2 _ a3 ((z3.mono s2).perm (hperm _)) fun yv H5 k5 ⟨a, f5, s5⟩ => ?_
  obtain ⟨acc, g1, g2, g3, g4⟩ := Sep.push (s5.perm ((hperm (Fs (i + 1))).symm.cons _))
  have il : i < 100000 := by omega
  refine ⟨acc, g1, by rw [g2, z1]; have : sizeLine = 16777216 := by decide
                      omega, KeepT.trans (KeepT.trans (KeepT.trans z0 (keepT s2)) k5) g3, as ++ [a], by rw [List.length_append, z1]; rfl, fun j b e => ?_, g4⟩
  by_cases hjl : j < as.length
  · rw [List.getElem?_append_left hjl] at e
    exact z2 j b e
  · rw [List.getElem?_append_right (by omega)] at e
    have : j - as.length = 0 := by
      by_cases h : j - as.length = 0
      · exact h
      · rw [List.getElem?_eq_none (by simp; omega)] at e; cases e
    rw [this] at e
    cases e
    have : j = i := by omega
    subst this
    exact f5)
/-! ### built-ins of one argument -/
theorem es_callT1 {T : String} {rr : List V → Hp → VK → Prop} {n : Str} (hc : CallR X (.type T) rr) (hm : X.mg n = none) (hv : bootBuiltins n = some (.type T)) (ha : ES X G a Ts R)
    (hr : ∀ v H Q, R v H → (∀ u H', Same H H' → R' u H' → Q u H') → rr [v] H Q) (hg : Gl X n := by rfl) (hn : n ≠ "__name__" := by decide) (hdb : (n == ("__debug__" : Str)) = false := by decide)
    (hs : starEach [a] X.env = (false, eval a X.env) :: starEach [] X.env := by rfl) (hpl : (backTo pos (starEach [] X.env)).any (·.1) = false := by rfl) : ES X G (.Call (.Name n p) [a] [] pos) Ts R' := fun σ H Q h0 s q =>
  pe_out (pe_callTy hc hg hm hv (pa_cons pe_in pa_nil hs) hn hdb hs hpl) (ha σ H _ h0 s fun v H1 k1 r1 => hr v H1 Q r1 fun u H2 s2 r2 => q u H2 (KeepT.trans k1 (keepT s2)) r2)
theorem es_tupL {A α : Type} [Im α] {f : A → List α} {φ : A → Prop} {Fs : A → List Th} (hm : X.mg "tuple" = none) (ha : ES X G a Ts (fun v H => ∃ x, φ x ∧ Sep (ValT v (Lst.mk (f x)) :: Fs x) H)) (hg : Gl X "tuple" := by rfl) (hs : starEach [a] X.env = (false, eval a X.env) :: starEach [] X.env := by rfl) (hpl : (backTo pos (starEach [] X.env)).any (·.1) = false := by rfl) :
    ES X G (.Call (.Name "tuple" p) [a] [] pos) Ts (fun v H => ∃ x, φ x ∧ Sep (ValT v (f x) :: Fs x) H) := es_callT1 call_tuple_of hm (by decide +kernel) ha (fun v H Q ⟨x, fx, sx⟩ k => by
  obtain ⟨q, xs, e1, e2, e3⟩ := sx.at0
  exact ⟨q, xs, by rw [e1], .inl ⟨.inl (.inl e2), fun m hm => k _ _ (Same.new hm) ⟨x, fx, Sep.im (sx.drop.mono (Same.new hm)) ⟨m, xs, rfl, upd_same, A2.mono (l := f x) (Same.new hm) e3⟩⟩⟩⟩) hg (by decide) (by decide) hs hpl
end
end Lk

/-! LkK3 -/
set_option Elab.async false
set_option linter.all false
set_option maxRecDepth 100000
set_option maxHeartbeats 4000000
set_option autoImplicit false
/-! Taking, methods of a house called; _law_of, _law_files -/
namespace Lk
open PySem PySem.Spec PyProof.Rows L2
open Ty (r)
section
variable {X : Cx} {H0 : Hp} {G : List Slot} {e a b c o tg : Expr} {es elts : List Expr} {pos p p1 apos tpos : Pos} {kk : Nat} {Ts Us : List Th} {R R' : V → Hp → Prop} {Ra : List V → Hp → Prop} {D : Ends} {rest body els : List Stmt}
/-- pure arguments -/
theorem eas_pure {Rs : Ars} (h : ∀ H0, Sep Ts H0 → EA X H0 G es Rs) : EAS X G es Ts (fun vs H => Rs.p vs H ∧ Sep Ts H) := fun σ H Q a s q => h H s σ H Q a fun vs H' s1 p1 => q vs H' (keepT s1) ⟨p1, s.mono s1⟩
theorem EAS.pre (h : EAS X G es Us Ra) (k : ∀ H, Sep Ts H → Sep Us H) : EAS X G es Ts Ra := fun σ H Q a s q => h σ H Q a (k H s) q
theorem es_take {k m : Nat} {q : Addr} {n size : Int} [g : ImG G] (F : Cal X.prog X.w X.K X.mg X.base k "_law_take" ["_law_pot_here", "_law_size"] spTake) (hr : Room m X.A) (hz : 0 < size ∧ size < 1073741824) (hn : n < 2 ^ 40) (ha : ∀ H0, Sep Ts H0 → E X H0 G a (Val (Adr.mk q))) (hb : ∀ H0, Sep Ts H0 → E X H0 G b (Val size)) (hp : ∀ H, Sep Ts H → Sep (PotT q n :: Us) H) (hk : k ≤ m := by decide) (hg : Gl X "_law_take" := by rfl)
    (hs : starEach [a, b] X.env = (false, eval a X.env) :: starEach [b] X.env := by rfl) (hs2 : starEach [b] X.env = (false, eval b X.env) :: starEach [] X.env := by rfl) (hpl : (backTo pos (starEach [b] X.env)).any (·.1) = false := by rfl) :
    ES X G (.Call (.Name "_law_take" p) [a, b] [] pos) Ts (fun v H => ∃ x : Int, (0 ≤ x ∧ x < size) ∧ Sep (ValT v x :: PotT q (n + 1) :: Us) H) :=
  es_call F hr (eas_pure (Rs := .cons (Adr.mk q) (.cons size .nil)) fun H0 s => ea_cons (ha H0 s) (ea_cons (hb H0 s) ea_nil hs2) hs) (fun vs H Q ⟨⟨v1, w1, e1, r1, v2, w2, e2, r2, e3⟩, s1⟩ k => by
    have r1 : v1 = .ref q := r1
    have r2 : v2 = .int size := r2
    have e3 : w2 = [] := e3
    subst r1 r2 e3 e2 e1
    obtain ⟨Hc, t1, t2, t3⟩ := hp H s1
    exact ⟨Hc, q, n, size, rfl, t1, t2, hn, hz, fun x H' k1 k2 k3 k4 => k _ H' k2 ⟨x, k4, Sep.im ⟨Hc, k1, k3, t3⟩ rfl⟩⟩) hk hg (by decide) hs hpl
/-- a method of a house -/
theorem es_meth {ι β : Type} [Im β] {args : ι → Ars} {pre : ι → Hou X.K → Prop} {st : ι → Hou X.K → Hou X.K} {val : ι → Hou X.K → β} {k m : Nat} {nm : Str} {ps : List Str} {pa : Addr} {pl : Sem Bool} [g : ImG G] (F : CalM X.prog X.w X.K X.mg X.base k (He.ga X.K "House") nm ps (spH X.K args pre st val)) (hr : Room m X.A)
    (hn : ∀ (hands t p next : Int) (vf va : V) (bd : Bool) (vd vc : V), (houFs hands t p next vf va bd vd vc).lookup nm = none) (ho : ∀ H0, Sep Ts H0 → E X H0 G o (Val (Adr.mk pa))) (hx : ∀ H, Sep Ts H → ∃ h : Hou X.K, HouAt X.K h pa H) (ha : EAS X G (e :: es) Ts Ra)
    (hsp : ∀ vs H, Ra vs H → ∃ i h Ws, (args i).p vs H ∧ Sep (HouT (K := X.K) pa h :: Ws) H ∧ pre i h ∧ ∀ v H', Sep (HouT (K := X.K) pa (st i h) :: Ws) H' → r (val i h) v H' → R v H') (hk : k ≤ m := by decide)
    (hst : starEach (e :: es) X.env = (false, eval e X.env) :: starEach es X.env := by rfl) (hpl : (backTo pos (starEach es X.env)).any (·.1) = false := by rfl)
    (ht : eval (.Call (.Attribute o nm apos) (e :: es) [] pos) X.env = (do
      let ov ← eval o X.env
      standAt apos.atName
      let (f, first) ← holding [ov] (getMethod ov nm pl)
      callWith pos f first (backTo pos (starEach (e :: es) X.env)) (backToKw pos (keywordEach [] X.env))) := by rfl) : ES X G (.Call (.Attribute o nm apos) (e :: es) [] pos) Ts R := fun σ H Q h0 s q => by
  obtain ⟨f, fd, F1, F2, F3, F4⟩ := F.ex
  refine pe_out (pe_meth pe_in F3 F2 F1 (hr.mono hk) F4 .nil pass0 pa_in hst hpl ht) (ho H s σ H _ h0 fun v H1 s1 p1 => ?_)
  have p1 : v = .ref pa := p1
  subst p1
  have s1' := s.mono s1
  obtain ⟨h, dx, FA, AA, vd, vc, HF⟩ := hx H1 s1'
  refine ⟨pa, dx, _, rfl, HF.ins, hn _ _ _ _ _ _ _ _ _, ha σ H1 _ (h0.ims g (keepT s1) (Same.refl H1)) s1' fun vs H2 k2 r2 => ?_⟩
  show spH X.K args pre st val (.ref pa :: (vs ++ [])) H2 Q E0
  rw [List.append_nil]
  obtain ⟨i, h', Ws, a1, ⟨Hc, t1, t2, t3⟩, a3, a4⟩ := hsp vs H2 r2
  exact ⟨i, Hc, h', pa, vs, rfl, a1, t1, t2, a3, fun u H' k3 k4 k5 k6 => q u H' (KeepT.trans (KeepT.trans (keepT s1) k2) k4) (a4 u H' ⟨Hc, k3, k5, t3⟩ k6)⟩
theorem es_meth0 {ι β : Type} [Im β] {args : ι → Ars} {pre : ι → Hou X.K → Prop} {st : ι → Hou X.K → Hou X.K} {val : ι → Hou X.K → β} {k m : Nat} {nm : Str} {ps : List Str} {pa : Addr} {pl : Sem Bool} [g : ImG G] (F : CalM X.prog X.w X.K X.mg X.base k (He.ga X.K "House") nm ps (spH X.K args pre st val)) (hr : Room m X.A)
    (hn : ∀ (hands t p next : Int) (vf va : V) (bd : Bool) (vd vc : V), (houFs hands t p next vf va bd vd vc).lookup nm = none) (ho : ∀ H0, Sep Ts H0 → E X H0 G o (Val (Adr.mk pa)))
    (hsp : ∀ H, Sep Ts H → ∃ i h Ws, (args i).p [] H ∧ Sep (HouT (K := X.K) pa h :: Ws) H ∧ pre i h ∧ ∀ v H', Sep (HouT (K := X.K) pa (st i h) :: Ws) H' → r (val i h) v H' → R v H') (hk : k ≤ m := by decide)
    (ht : eval (.Call (.Attribute o nm apos) [] [] pos) X.env = (do
      let ov ← eval o X.env
      standAt apos.atName
      let (f, first) ← holding [ov] (getMethod ov nm pl)
      callWith pos f first (backTo pos (starEach [] X.env)) (backToKw pos (keywordEach [] X.env))) := by rfl) : ES X G (.Call (.Attribute o nm apos) [] [] pos) Ts R := fun σ H Q h0 s q => by
  obtain ⟨f, fd, F1, F2, F3, F4⟩ := F.ex
  refine pe_out (pe_meth0 pe_in F3 F2 F1 (hr.mono hk) F4 .nil pass0 ht) (ho H s σ H _ h0 fun v H1 s1 p1 => ?_)
  have p1 : v = .ref pa := p1
  subst p1
  have s1' := s.mono s1
  obtain ⟨i, h', Ws, a1, sh, a3, a4⟩ := hsp H1 s1'
  obtain ⟨dx, FA, AA, vd, vc, HF⟩ := sh.at0
  refine ⟨pa, dx, _, rfl, HF.ins, hn _ _ _ _ _ _ _ _ _, ?_⟩
  show spH X.K args pre st val (.ref pa :: ([] ++ [])) H1 Q E0
  obtain ⟨Hc, t1, t2, t3⟩ := sh
  exact ⟨i, Hc, h', pa, [], rfl, a1, t1, t2, a3, fun u H' k3 k4 k5 k6 => q u H' (KeepT.trans (keepT s1) k4) (a4 u H' ⟨Hc, k3, k5, t3⟩ k6)⟩
/-- l[e], l one of the things -/
theorem es_ixL {A α : Type} [Im α] {l : List α} {L : Addr} {φ : A → Prop} {f : A → Int} {Fs : A → List Th} [g : ImG G] (ha : ∀ H0, Sep Ts H0 → E X H0 G a (Val (Adr.mk L))) (hb : ES X G b Ts (fun v H => ∃ x, φ x ∧ Sep (ValT v (f x) :: Fs x) H)) (hl : ∀ x H, Sep (Fs x) H → r (Lst.mk l) (.ref L) H) (hu : ∀ x, φ x → ∃ u, atI l (f x) = some u) (hs : PlainIx b := by exact fun _ _ => rfl) :
    ES X G (.Subscript a b pos) Ts (fun v H => ∃ x u, φ x ∧ atI l (f x) = some u ∧ Sep (ValT v u :: Fs x) H) := fun σ H Q h0 s q =>
  pe_out (pe_ix ix_list pe_in pe_in hs) (ha H s σ H _ h0 fun v H1 s1 p1 => hb σ H1 _ (h0.ims g (keepT s1) (Same.refl H1)) (s.mono s1) fun w H2 k2 ⟨x, fx, sx⟩ => by
    have p1 : v = .ref L := p1
    subst p1
    have p2 : w = .int (f x) := sx.at0
    obtain ⟨L', xs, e, e1, e2⟩ := hl x H2 sx.drop
    cases e
    obtain ⟨u, eu⟩ := hu x fx
    obtain ⟨z, q1, q2⟩ := atI_A2 (l := l) e2 eu
    exact ⟨L, xs, f x, z, rfl, p2, .inl (.inl e1), q1, q _ H2 (KeepT.trans (keepT s1) k2) ⟨x, u, fx, eu, Sep.im sx.drop q2⟩⟩)
end
section
variable {P : Program} {w : World} {K : PySem.W.Frag} {mg : Str → Option Value} {base : Heap}
/-! ### _law_of -/
def spOf : Sp := fun vs H Q _ => ∃ (α : Type) (_ : Im α) (l : List α) (q : Addr) (n : Int) (v : V) (Ws : List Th), vs = [.ref q, v] ∧ Sep (PotT q n :: ValT v (Lst.mk l) :: Ws) H ∧ n < 2 ^ 39 ∧ (0 < l.length ∧ l.length < 1000000) ∧ ∀ (x : α) u H', KeepT H H' → Sep (PotT q (n + 1) :: ValT v (Lst.mk l) :: Ws) H' → x ∈ l → r x u H' → Q u H'
theorem atI_in {α : Type} {l : List α} {i : Int} (h0 : 0 ≤ i) (h : i < l.length) : ∃ u, atI l i = some u := Option.isSome_iff_exists.mp (atI_some h0 h)
theorem ok_law_of (T : Tx K mg) : Cal P w K mg base 2 "_law_of" ["_law_pot_here", "_law_some"] spOf := by
  obtain ⟨fd, F⟩ := T.f_law_of
  refine cal_of F T.g_law_of (F.ok sc_law_of (fun vs H Q Ex ⟨_, _, _, _, _, _, _, e, _⟩ => by rw [e]; rfl) fun cdv A outer s H vs Q Ex hr ⟨α, iα, l, q, n, v, Ws, e, hS, hn, hz, hq⟩ => ?_) (fun _ _ _ _ _ _ us hl => match us, hl with | [_, _], _ => rfl)
  subst e
  refine ⟨_, PSs.nox pss_in, ?_⟩
  obtain ⟨L, rfl⟩ : ∃ L, v = .ref L := by
    obtain ⟨L, _, e, _⟩ := hS.drop.at0
    exact ⟨L, e⟩
  suffices hB : B (cxOf CX0 P w K mg base N_law_of "_law_of" (defScope s_law_of) (He.fAd K ("_law_of", none)) cdv A outer s H Ex).nox H [.im (Adr.mk q), .im (Adr.mk L)] (defBody s_law_of) { nx := fun _ H' => Q .non H', rt := Q } from
    hB _ H (ent_at (R := .cons (Adr.mk q) (.cons (Adr.mk L) .nil)) (gs := [.im (Adr.mk q), .im (Adr.mk L)]) (n := 0) (ent_im (ent_im ent_nil)) (by rfl) ⟨_, _, rfl, rfl, _, _, rfl, rfl, rfl⟩)
  refine bs_ret (Ts := TupT H :: PotT q n :: ValT (.ref L) (Lst.mk l) :: Ws) hS.tups (es_ixL (l := l) (L := L) (f := fun x : Int => x) (Fs := fun x => PotT q (n + 1) :: TupT H :: ValT (.ref L) (Lst.mk l) :: Ws) (fun H0 s => e_var 1) (es_take (size := (l.length : Int)) (ok_law_take T) hr (by omega) (by omega) (fun H0 s => e_var 0) (fun H0 s => e_lenL (l := l) T.m_len (E.ofOld (E.there (e_var 1) (Sep.get (T := ValT (.ref L) (Lst.mk l)) 2 s)))) (fun H s => s.front 1)) (fun x H s => Sep.get (T := ValT (.ref L) (Lst.mk l)) 2 s) (fun x fx => atI_in fx.1 fx.2)) (fun v H1 ⟨x, u, fx, eu, s1⟩ => ?_)
  have kt : KeepT H H1 := Sep.get (T := TupT H) 2 s1
  exact hq u v H1 kt ((s1.del 2).del 0) (atI_mem eu) s1.at0
end
end Lk

/-! LkK4 -/
set_option Elab.async false
set_option linter.all false
set_option maxRecDepth 100000
set_option maxHeartbeats 4000000
set_option autoImplicit false
/-! _law_of called; _law_pot, _law_files -/
namespace Lk
open PySem PySem.Spec PyProof.Rows L2
open Ty (r)
/-- the script's list -/
structure Scr (K : PySem.W.Frag) where
  l : List Int
theorem SqL.mono {K : PySem.W.Frag} {H H' : Hp} {a : Addr} {xs : List V} (s : Same H H') (h : SqL K H a xs) : SqL K H' a xs := by
  rcases h with h | h
  · rcases h with h | ⟨o, h⟩
    · exact .inl (.inl (s _ _ h))
    · exact .inl (.inr ⟨o, s _ _ h⟩)
  · exact .inr h
instance (K : PySem.W.Frag) : Ty (Scr K) where
  r x v H := ∃ a, v = .ref a ∧ SqL K H a (x.l.map V.int)
  mono s := fun ⟨a, e, h⟩ => ⟨a, e, SqL.mono s h⟩
section
variable {X : Cx} {H0 : Hp} {G : List Slot} {e a b c o tg : Expr} {es elts : List Expr} {pos p p1 apos tpos : Pos} {kk : Nat} {Ts Us : List Th} {R R' : V → Hp → Prop} {Ra : List V → Hp → Prop} {D : Ends} {rest body els : List Stmt}
theorem e_lenS {s : Scr X.K} (hm : X.mg "len" = none) (ha : E X H0 G a (Val s)) (hg : Gl X "len" := by rfl) (hs : starEach [a] X.env = (false, eval a X.env) :: starEach [] X.env := by rfl) (hpl : (backTo pos (starEach [] X.env)).any (·.1) = false := by rfl) :
    E X H0 G (.Call (.Name "len" p) [a] [] pos) (Val (s.l.length : Int)) := e_callB1 call_len hm boot_len ha (fun v H Q ⟨q, e1, e2⟩ k => ⟨v, s.l.length, rfl, by rw [e1]; exact .inl ⟨_, e2, by simp⟩, k _ H (Same.refl H) rfl⟩) hg (by decide) (by decide) hs hpl
theorem e_ixS {s : Scr X.K} {x u : Int} (hu : atI s.l x = some u) (ha : E X H0 G a (Val s)) (hb : E X H0 G b (Val x)) (hs : PlainIx b := by exact fun _ _ => rfl) : E X H0 G (.Subscript a b pos) (Val u) := fun σ H Q h0 q =>
  pe_out (pe_ix ix_list pe_in pe_in hs) (ha σ H _ h0 fun v H1 s1 ⟨m, e1, e2⟩ => hb σ H1 _ (h0.ext s1) fun w H2 s2 p2 => by
    obtain ⟨z, q1, q2⟩ := atI_A2 (l := s.l) (H := H2) A2.of_ints hu
    exact ⟨m, _, x, z, e1, p2, SqL.mono s2 e2, q1, q _ H2 (Same.trans s1 s2) q2⟩)
theorem eas_consV {α : Type} [Im α] {x : α} {R2 : V → List V → Hp → Prop} [g : ImG G] (ha : ∀ H0, Sep Ts H0 → E X H0 G e (Val x)) (hr : ∀ v, EAS X G es (ValT v x :: Ts) (R2 v))
    (hs : starEach (e :: es) X.env = (false, eval e X.env) :: starEach es X.env := by rfl) : EAS X G (e :: es) Ts (fun vs H => ∃ v ws, vs = v :: ws ∧ R2 v ws H) := fun σ H Q h0 s q =>
  pa_out (pa_cons pe_in pa_in hs) (ha H s σ H _ h0 fun v H1 s1 p1 => hr v σ H1 _ (h0.ims g (keepT s1) (Same.refl H1)) (Sep.im (s.mono s1) p1) fun ws H2 k2 r2 => q (v :: ws) H2 (KeepT.trans (keepT s1) k2) ⟨v, ws, rfl, r2⟩)
theorem eas_one (he : ES X G e Ts R) (hs : starEach [e] X.env = (false, eval e X.env) :: starEach [] X.env := by rfl) : EAS X G [e] Ts (fun vs H => ∃ v, vs = [v] ∧ R v H) := fun σ H Q h0 s q =>
  pa_out (pa_cons pe_in pa_nil hs) (he σ H _ h0 s fun v H1 k1 r1 => q [v] H1 k1 ⟨v, rfl, r1⟩)
theorem es_of {α : Type} [Im α] {l : List α} {k m : Nat} {q : Addr} {n : Int} [g : ImG G] (F : Cal X.prog X.w X.K X.mg X.base k "_law_of" ["_law_pot_here", "_law_some"] spOf) (hr : Room m X.A) (hl : 0 < l.length ∧ l.length < 1000000) (hn : n < 2 ^ 39) (ha : ∀ H0, Sep Ts H0 → E X H0 G a (Val (Adr.mk q))) (hb : ∀ v, ∀ H0, Sep (ValT v (Adr.mk q) :: Ts) H0 → E X H0 G b (New (Lst.mk l))) (hp : ∀ H, Sep Ts H → Sep (PotT q n :: Us) H) (hk : k ≤ m := by decide) (hg : Gl X "_law_of" := by rfl)
    (hs : starEach [a, b] X.env = (false, eval a X.env) :: starEach [b] X.env := by rfl) (hs2 : starEach [b] X.env = (false, eval b X.env) :: starEach [] X.env := by rfl) (hpl : (backTo pos (starEach [b] X.env)).any (·.1) = false := by rfl) :
    ES X G (.Call (.Name "_law_of" p) [a, b] [] pos) Ts (fun v H => ∃ x : α, x ∈ l ∧ Sep (ValT v x :: PotT q (n + 1) :: Us) H) :=
  es_call F hr (eas_consV ha (fun v => eas_one (es_new (hb v)) hs2) hs) (fun vs H Q ⟨v1, w1, e1, v2, e2, s2⟩ k => by
    have r1 : v1 = .ref q := s2.drop.at0
    subst r1 e2 e1
    have s3 : Sep (PotT q n :: ValT v2 (Lst.mk l) :: Us) H := by
      obtain ⟨Hc, t1, t2, t3⟩ := s2
      exact Sep.swap ⟨Hc, t1, t2, hp Hc t3.drop⟩
    exact ⟨α, inferInstance, l, q, n, v2, Us, rfl, s3, hn, hl, fun x u H' k1 s4 hx rx => k u H' k1 ⟨x, hx, Sep.im (s4.del 1) rx⟩⟩) hk hg (by decide) hs hpl
end
section
variable {P : Program} {w : World} {K : PySem.W.Frag} {mg : Str → Option Value} {base : Heap}
def potCell (s : List Int) (k : Int) : Int := if decide (k < (s.length : Int)) = true then (atI s k).getD 0 else 5 * k + 2
def absI (x : Int) : Int := if x < 0 then -x else x
def potGreat (c : Int) : Int := absI c % ((10 : Int) ^ (60 : Int).toNat) ^ (5 : Int).toNat * (if decide ((10 : Int) ^ (18 : Int).toNat ≤ absI c) = true then 1 else 0)
def potMid (c k : Int) : Int := (c % 2305843009213693951 + 7907 * k * k + 19) * 69621 % 2305843009213693921
theorem big_pos : 0 < ((10 : Int) ^ (60 : Int).toNat) ^ (5 : Int).toNat := Int.pow_pos (Int.pow_pos (by decide))
theorem big_lt : ((10 : Int) ^ (60 : Int).toNat) ^ (5 : Int).toNat < 2 ^ 1000 := by decide +kernel
theorem potGreat_nn (c : Int) : 0 ≤ potGreat c := by
  unfold potGreat
  have h := Int.emod_nonneg (absI c) (Int.ne_of_gt big_pos)
  split
  · rw [Int.mul_one]; exact h
  · rw [Int.mul_zero]; exact Int.le_refl 0
theorem ok_law_pot (T : Tx K mg) : Cal P w K mg base 1 "_law_pot" ["_law_script", "_law_k"] (spG (fun i : ((Scr K)) × Int => (.cons i.1 (.cons i.2 .nil))) (fun i => (fun (script : (Scr K)) (k : Int) => 0 ≤ k ∧ k ≤ 1) i.1 i.2) fun i => (fun (script : (Scr K)) (k : Int) => New (Lst.mk [potGreat (potCell script.l k), potMid (potCell script.l k) k, 0])) i.1 i.2) := by
  obtain ⟨fd, F⟩ := T.f_law_pot
  refine cal_of F T.g_law_pot (fn_ok (fun i => [.old (i.1), .im (i.2)]) 2 F sc_law_pot (fun i => (ent_old (ent_im ent_nil))) (fun _ => rfl) (fun _ => rfl) fun cdv A outer s H Ex i hr hp => ?_) (fun _ _ _ _ _ _ us hl => match us, hl with | [_, _], _ => rfl)
  obtain ⟨script, k⟩ := i
  have hp : 0 ≤ k ∧ k ≤ 1 := hp
  obtain ⟨k0, k1⟩ := hp
  refine b_set 2 (x := potCell script.l k) (e_ite (et_lt (e_var 1) (e_lenS T.m_len (E.ofOld (e_old 0)))) (fun h => e_ixS (some_getD ?_) (E.ofOld (e_old 0)) (e_var 1)) fun _ => e_add (e_mul (by unfold CMul; left; omega) e_int (e_var 1)) e_int) ?_ sc_law_pot.nd
  · exact atI_some k0 (of_decide_eq_true h)
  have ec : ∀ c, c = potCell script.l k → 0 ≤ absI c % ((10 : Int) ^ (60 : Int).toNat) ^ (5 : Int).toNat ∧ absI c % ((10 : Int) ^ (60 : Int).toNat) ^ (5 : Int).toNat < 2 ^ 1000 := fun c _ => ⟨Int.emod_nonneg (absI c) (Int.ne_of_gt big_pos), Int.lt_trans (Int.emod_lt_of_pos (absI c) big_pos) big_lt⟩
  obtain ⟨m0, m2⟩ := ec _ rfl
  refine b_set 3 (x := potGreat (potCell script.l k)) (e_mulW (wide_mul (a := 1000) (b := 2) (by omega) (by split <;> decide) (by decide) (by decide) (by decide)) (e_mod big_pos (e_abs T.m_abs (e_var 2)) (e_pow (by unfold CPowI; decide +kernel) (e_pow (by unfold CPowI; decide +kernel) e_int e_int) e_int)) (e_intB T.m_int (e_ge (e_abs T.m_abs (e_var 2)) (e_pow (by unfold CPowI; decide +kernel) e_int e_int)))) ?_ sc_law_pot.nd
  have kk : k = 0 ∨ k = 1 := by omega
  refine b_retN (e_lst3 (e_var 3) (e_mod (by decide) (e_mul (by unfold CMul; right; decide) (e_add (e_add (e_mod (by decide) (e_var 2) e_int) (e_mul (show CMul (7907 * k) k by unfold CMul; right; omega) (e_mul (show CMul 7907 k by unfold CMul; left; omega) e_int (e_var 1)) (e_var 1))) e_int) e_int) e_int) e_int) (Same.refl _) rfl
end
end Lk

/-! LkK5 -/
set_option Elab.async false
set_option linter.all false
set_option maxRecDepth 100000
set_option maxHeartbeats 4000000
set_option autoImplicit false
/-! _law_files -/
namespace Lk
open PySem PySem.Spec PyProof.Rows L2
open Ty (r)
theorem potE {q : Addr} {n m : Int} {Ws : List Th} {H : Hp} (h : n = m) (s : Sep (PotT q n :: Ws) H) : Sep (PotT q m :: Ws) H := by subst h; exact s
section
variable {P : Program} {w : World} {K : PySem.W.Frag} {mg : Str → Option Value} {base : Heap}
def spFiles : Sp := fun vs H Q _ => ∃ (q : Addr) (n count t p many : Int) (Ws : List Th), vs = [.ref q, .int count, .int t, .int p, .int many] ∧ Sep (PotT q n :: Ws) H ∧ llOk count t = true ∧ (lawLots count t).length < 100 ∧ (0 < p ∧ p < 1073741824) ∧ (0 ≤ many ∧ many < 10) ∧ n < 2 ^ 38 ∧
  ∀ (fs : List (List Int)) v H', KeepT H H' → fs.length = many.toNat → (∀ f ∈ fs, f.length = (lawLots count t).length ∧ ∀ x ∈ f, 0 ≤ x ∧ x < p) → Sep (ValT v (Lst.mk fs) :: PotT q (n + many * (lawLots count t).length) :: Ws) H' → Q v H'
theorem ok_law_files (T : Tx K mg) : Cal P w K mg base 3 "_law_files" ["_law_pot_here", "_law_count", "_law_t", "_law_p", "_law_many"] spFiles := by
  obtain ⟨fd, F⟩ := T.f_law_files
  refine cal_of F T.g_law_files (F.ok sc_law_files (fun vs H Q Ex ⟨_, _, _, _, _, _, _, e, _⟩ => by rw [e]; rfl) fun cdv A outer s H vs Q Ex hr ⟨q, n, count, t, p, many, Ws, e, hS, hl, hll, hp, hm, hn, hq⟩ => ?_) (fun _ _ _ _ _ _ us hl => match us, hl with | [_, _, _, _, _], _ => rfl)
  subst e
  refine ⟨_, PSs.nox pss_in, ?_⟩
  suffices hB : B (cxOf CX0 P w K mg base N_law_files "_law_files" (defScope s_law_files) (He.fAd K ("_law_files", none)) cdv A outer s H Ex).nox H [.im (Adr.mk q), .im count, .im t, .im p, .im many, .no, .no] (defBody s_law_files) { nx := fun _ H' => Q .non H', rt := Q } from
    hB _ H (ent_at (R := .cons (Adr.mk q) (.cons count (.cons t (.cons p (.cons many .nil))))) (gs := [.im (Adr.mk q), .im count, .im t, .im p, .im many]) (n := 2) (ent_im (ent_im (ent_im (ent_im (ent_im ent_nil))))) (by rfl) ⟨_, _, rfl, rfl, _, _, rfl, rfl, _, _, rfl, rfl, _, _, rfl, rfl, _, _, rfl, rfl, rfl⟩)
  obtain ⟨L, eL⟩ : ∃ L : Nat, (lawLots count t).length = L := ⟨_, rfl⟩
  rw [eL] at hll hq
  have hS1 : Sep (PotT q (n + ((0 : Nat) : Int) * (L : Int)) :: TupT H :: Ws) H := potE (by simp) hS.tups.swap
  refine bs_ret (Ts := PotT q (n + ((0 : Nat) : Int) * (L : Int)) :: TupT H :: Ws) hS1 (es_lc (α := List Int) (l := rng 0 many.toNat) (fun _ f => f.length = L ∧ ∀ x ∈ f, 0 ≤ x ∧ x < p) (fun i => PotT q (n + (i : Int) * (L : Int)) :: TupT H :: Ws) [("_law_turn", 6)] sc_law_files.nd (eis_rng1 T.m_range (fun H0 s => e_var 4) (by show -(2 ^ 62) ≤ many ∧ many < 2 ^ 62; omega)) (by rw [rng_len]; omega) (fun s H C cl fp => tgt_name 6 sc_law_files.nd) (fun s0 H0 C cl fp T1 U i x hx => ?_)) (fun v H1 ⟨as, h1, h2, h3⟩ => ?_)
  · have hi : (i : Int) < many := by
      have := (List.getElem?_eq_some_iff.mp hx).1
      rw [rng_len] at this
      omega
    have iL : (i : Int) * (L : Int) ≤ 10 * 100 := Int.mul_le_mul (by omega) (by omega) (by omega) (by omega)
    have iL0 : 0 ≤ (i : Int) * (L : Int) := Int.mul_nonneg (by omega) (by omega)
    refine ES.weak (es_tupL (A := List Int) (f := fun as => as) (φ := fun as => as.length = L ∧ ∀ x ∈ as, 0 ≤ x ∧ x < p) (Fs := fun _ => AnyT :: PotT q (n + (i : Int) * (L : Int) + (L : Int)) :: TupT H :: (Ws ++ [T1, U])) T.m_tuple (ES.weak (ES.pre (es_lc (α := Int) (l := lawLots count t) (fun _ x => 0 ≤ x ∧ x < p) (fun j => PotT q (n + (i : Int) * (L : Int) + (j : Int)) :: TupT H :: (Ws ++ [T1, U])) [("_law_lot", 5)] sc_law_files.nd (eis_new (es_new fun H0 s => e_call (ok_law_lots T) hr (count, t) hl (ea_cons (e_var 1) (ea_cons (e_var 2) ea_nil)))) (by rw [eL]; omega) (fun s H C cl fp => tgt_name 5 sc_law_files.nd) (fun s1 H1 C1 cl1 fp1 T2 U2 j y hy => ?_)) (fun H s => potE (by simp) s)) (fun v H ⟨as, k1, k2, k3⟩ => ⟨as, ⟨k1.trans eL, fun x hx => ?_⟩, ?_⟩))) (fun v H ⟨as, k1, k2⟩ => ⟨as, k1, ?_⟩)
    · have hj : (j : Int) < 100 := by
        have : j < (lawLots count t).length := (List.getElem?_eq_some_iff.mp hy).1
        omega
      exact ES.weak (es_take (size := p) (n := n + (i : Int) * (L : Int) + (j : Int)) (ok_law_take T) hr hp (by omega) (fun H0 s => e_var 0) (fun H0 s => e_var 3) (fun H s => s)) (fun v H ⟨x, k1, k2⟩ => ⟨x, k1, Sep.swap (potE (by rw [Int.natCast_succ]; omega) k2.swap)⟩)
    · obtain ⟨j, hj⟩ := List.getElem?_of_mem hx
      exact k2 j x hj
    · rw [eL] at k3
      exact k3
    · have k3 : Sep (ValT v as :: PotT q (n + (i : Int) * (L : Int) + (L : Int)) :: TupT _ :: (Ws ++ [T1, U])) H := k2.del 1
      exact Sep.swap (potE (by rw [Int.natCast_succ, Int.add_mul]; omega) k3.swap)
  · rw [rng_len] at h1 h3
    have kt : KeepT H H1 := Sep.get (T := TupT H) 3 h3
    refine hq as v H1 kt h1 (fun f hf => ?_) ?_
    · obtain ⟨j, hj⟩ := List.getElem?_of_mem hf
      exact h2 j f hj
    · have h4 : Sep (ValT v (Lst.mk as) :: PotT q (n + ((many.toNat : Nat) : Int) * (L : Int)) :: Ws) H1 := (Sep.del (Us := ValT v (Lst.mk as) :: PotT q (n + ((many.toNat : Nat) : Int) * (L : Int)) :: TupT _ :: Ws) 1 h3).del 2
      exact Sep.swap (potE (by rw [Int.toNat_of_nonneg hm.1]) h4.swap)
end
end Lk

/-! LkG1 -/
set_option Elab.async false
set_option linter.all false
set_option maxRecDepth 100000
set_option maxHeartbeats 4000000
set_option autoImplicit false
/-! Plain laws: dicts, lacked places. -/
namespace Lk
open PySem PySem.Spec PyProof.Rows L2
open Ty (r)
theorem dget_app {α : Type} {l : List (Int × α)} {i : Int} {u : α} (m : Int) : dget (l ++ [(i, u)]) m = if (dget l m).isSome = true then dget l m else if i = m then some u else none := by
  unfold dget
  rw [List.find?_append]
  cases h : l.find? fun e => decide (e.1 = m) with
  | some e => simp
  | none =>
    by_cases hi : i = m
    · simp [hi]
    · simp [hi]
theorem dget_none {α : Type} {l : List (Int × α)} {i : Int} : dget l i = none ↔ (l.any fun e => decide (e.1 = i)) = false := by
  unfold dget
  rw [Option.map_eq_none_iff, List.find?_eq_none]
  constructor
  · intro h
    rw [← Bool.not_eq_true, List.any_eq_true]
    rintro ⟨e, h1, h2⟩
    exact h e h1 h2
  · intro h e he h2
    rw [← Bool.not_eq_true, List.any_eq_true] at h
    exact h ⟨e, he, h2⟩
theorem dget_map {α : Type} {u : α} {i m : Int} : ∀ {l : List (Int × α)}, dget (l.map fun e => if e.1 = i then (e.1, u) else e) m = if i = m then (dget l m).map (fun _ => u) else dget l m
  | [] => by unfold dget; simp
  | e :: l => by
    have ih := dget_map (u := u) (i := i) (m := m) (l := l)
    unfold dget at ih ⊢
    rw [List.map_cons, List.find?_cons, List.find?_cons]
    by_cases h1 : e.1 = i
    · rw [if_pos h1]
      by_cases h2 : e.1 = m
      · have h3 : i = m := h1.symm.trans h2
        simp [h2, h3]
      · have h3 : ¬ i = m := fun z => h2 (h1.trans z)
        simp only [decide_eq_false h2]
        exact ih
    · rw [if_neg h1]
      by_cases h2 : e.1 = m
      · have h3 : ¬ i = m := fun z => h1 (h2.trans z.symm)
        simp [h2, h3]
      · simp only [decide_eq_false h2]
        exact ih
theorem dget_dput {α : Type} {l : List (Int × α)} {i : Int} {u : α} (m : Int) : dget (dput l i u) m = if i = m then some u else dget l m := by
  unfold dput
  split
  · rename_i h
    rw [dget_map]
    by_cases hi : i = m
    · rw [if_pos hi, if_pos hi]
      cases hd : dget l m with
      | some _ => rfl
      | none =>
        rw [dget_none, ← hi] at hd
        rw [hd] at h
        cases h
    · rw [if_neg hi, if_neg hi]
  · rename_i h
    have hn : dget l i = none := dget_none.mpr (Bool.not_eq_true _ ▸ h)
    rw [dget_app]
    by_cases hi : i = m
    · subst hi; rw [hn]; simp
    · rw [if_neg hi, if_neg hi]
      cases dget l m <;> rfl
/-! ### lacked places -/
structure LkI (f : List ((Int × Int) × Int)) (num at' : Int) : Prop where
  val : ∀ (k : Nat) e, f[k]? = some e → e.2 = (k : Int)
  lt : ∀ e ∈ f, e.1.1 < num ∨ (e.1.1 = num ∧ e.1.2 < at')
def TSub (f g : List ((Int × Int) × Int)) : Prop := ∀ i j, (tget f i j).isSome = true → (tget g i j).isSome = true
theorem LkI.put {f : List ((Int × Int) × Int)} {num at' : Int} (h : LkI f num at') : LkI (tput f num at' f.length) num (at' + 1) ∧ TSub f (tput f num at' f.length) ∧ (tget (tput f num at' f.length) num at').isSome = true ∧ (tput f num at' f.length).length = f.length + 1 := by
  have hn : (f.any fun e => decide (e.1.1 = num) && decide (e.1.2 = at')) = false := by
    rw [← Bool.not_eq_true, List.any_eq_true]
    rintro ⟨e, h1, h2⟩
    obtain ⟨h3, h4⟩ := Bool.and_eq_true_iff.mp h2
    have h3 := of_decide_eq_true h3
    have h4 := of_decide_eq_true h4
    rcases h.lt e h1 with h5 | h5 <;> omega
  have e : tput f num at' f.length = f ++ [((num, at'), (f.length : Int))] := by
    unfold tput
    rw [hn]
    rfl
  rw [e]
  refine ⟨⟨fun k x hx => ?_, fun x hx => ?_⟩, fun i j hs => ?_, ?_, by simp⟩
  · by_cases hk : k < f.length
    · rw [List.getElem?_append_left hk] at hx
      exact h.val k x hx
    · rw [List.getElem?_append_right (by omega)] at hx
      have : k - f.length = 0 := by
        by_cases hz : k - f.length = 0
        · exact hz
        · rw [List.getElem?_eq_none (by simp; omega)] at hx; cases hx
      rw [this] at hx
      cases hx
      show (f.length : Int) = k
      omega
  · rcases List.mem_append.mp hx with hx | hx
    · rcases h.lt x hx with h5 | h5
      · exact .inl h5
      · exact .inr ⟨h5.1, by omega⟩
    · have : x = ((num, at'), (f.length : Int)) := by simpa using hx
      subst this
      exact .inr ⟨rfl, by show at' < at' + 1; omega⟩
  · unfold tget at hs ⊢
    rw [List.find?_append]
    rw [Option.isSome_map] at hs ⊢
    rw [Option.isSome_or, hs]
    rfl
  · unfold tget
    rw [List.find?_append, Option.isSome_map, Option.isSome_or]
    simp
theorem LkI.up {f : List ((Int × Int) × Int)} {num at' at2 : Int} (h : LkI f num at') (hl : at' ≤ at2) : LkI f num at2 := ⟨h.val, fun e he => by
  rcases h.lt e he with h5 | h5
  · exact .inl h5
  · exact .inr ⟨h5.1, by omega⟩⟩
theorem LkI.next {f : List ((Int × Int) × Int)} {num at' num2 : Int} (h : LkI f num at') (hl : num < num2) : LkI f num2 0 := ⟨h.val, fun e he => by
  rcases h.lt e he with h5 | h5 <;> exact .inl (by omega)⟩
theorem lkIn_fold (num : Int) : ∀ (l : List (Option Int)) (k : Nat) (f : List ((Int × Int) × Int)), LkI f num k → LkI (((l.zipIdx k).map fun e => ((e.2 : Int), e.1)).foldl (lkIn num) f) num (k + l.length : Nat) ∧ TSub f (((l.zipIdx k).map fun e => ((e.2 : Int), e.1)).foldl (lkIn num) f) ∧ (∀ (j : Nat), l[j]? = some none → (tget (((l.zipIdx k).map fun e => ((e.2 : Int), e.1)).foldl (lkIn num) f) num ((k + j : Nat) : Int)).isSome = true) ∧ (((l.zipIdx k).map fun e => ((e.2 : Int), e.1)).foldl (lkIn num) f).length ≤ f.length + l.length
  | [], k, f, h => ⟨h, fun _ _ s => s, fun j e => by simp at e, Nat.le_refl _⟩
  | o :: l, k, f, h => by
    rw [List.zipIdx_cons, List.map_cons, List.foldl_cons]
    have step : LkI (lkIn num f ((k : Int), o)) num ((k + 1 : Nat) : Int) ∧ TSub f (lkIn num f ((k : Int), o)) ∧ (o = none → (tget (lkIn num f ((k : Int), o)) num (k : Int)).isSome = true) ∧ (lkIn num f ((k : Int), o)).length ≤ f.length + 1 := by
      unfold lkIn
      cases o with
      | none =>
        obtain ⟨h1, h2, h3, h4⟩ := h.put
        exact ⟨h1, h2, fun _ => h3, Nat.le_of_eq h4⟩
      | some u => exact ⟨h.up (by omega), (fun _ _ s => s), (fun z => by cases z), Nat.le_succ _⟩
    obtain ⟨s1, s2, s3, s4⟩ := step
    obtain ⟨i1, i2, i3, i4⟩ := lkIn_fold num l (k + 1) _ s1
    refine ⟨?_, fun i j s => i2 i j (s2 i j s), fun j e => ?_, ?_⟩
    · have : k + 1 + l.length = k + (o :: l).length := by simp; omega
      rw [← this]
      exact i1
    · cases j with
      | zero =>
        have e : o = none := by simpa using e
        exact i2 _ _ (s3 e)
      | succ j =>
        have := i3 j (by simpa using e)
        have e2 : k + 1 + j = k + (j + 1) := by omega
        rw [e2] at this
        exact this
    · simp only [List.length_cons]
      omega
theorem lkOut_fold (files : List (Int × List (Option Int))) (B : Nat) : ∀ (ms : List Int) (f : List ((Int × Int) × Int)) (b : Int), ms.Pairwise (· < ·) → (∀ m ∈ ms, b ≤ m) → (∀ m ∈ ms, ∀ g, dget files m = some g → g.length ≤ B) → LkI f b 0 → (∃ b2, LkI (ms.foldl (lkOut files) f) b2 0) ∧ TSub f (ms.foldl (lkOut files) f) ∧ (∀ m ∈ ms, ∀ (j : Nat) g, dget files m = some g → g[j]? = some none → (tget (ms.foldl (lkOut files) f) m (j : Int)).isSome = true) ∧ (ms.foldl (lkOut files) f).length ≤ f.length + B * ms.length
  | [], f, b, _, _, _, h => ⟨⟨b, h⟩, fun _ _ s => s, fun m hm => by simp at hm, by simp⟩
  | m :: ms, f, b, hp, hb, hB, h => by
    rw [List.foldl_cons]
    have hm := hb m (by simp)
    have h' : LkI f m 0 := by
      by_cases e : b = m
      · rw [← e]; exact h
      · exact h.next (by omega)
    have step := lkIn_fold m ((dget files m).getD []) 0 f h'
    have e : lkOut files f m = (((((dget files m).getD []).zipIdx 0).map fun e => ((e.2 : Int), e.1)).foldl (lkIn m) f) := rfl
    rw [← e] at step
    obtain ⟨s1, s2, s3, s4⟩ := step
    rw [List.pairwise_cons] at hp
    obtain ⟨i1, i2, i3, i4⟩ := lkOut_fold files B ms (lkOut files f m) (m + 1) hp.2 (fun x hx => by have := hp.1 x hx; omega) (fun x hx => hB x (List.mem_cons_of_mem _ hx)) (s1.next (by omega))
    refine ⟨i1, fun i j s => i2 i j (s2 i j s), fun x hx j g hg ej => ?_, ?_⟩
    · rcases List.mem_cons.mp hx with rfl | hx
      · refine i2 _ _ ?_
        have := s3 j (by rw [hg]; exact ej)
        rw [Nat.zero_add] at this
        exact this
      · exact i3 x hx j g hg ej
    · have : ((dget files m).getD []).length ≤ B := by
        cases hd : dget files m with
        | none => simp
        | some g => exact hB m (by simp) g hd
      rw [List.length_cons, Nat.mul_succ]
      omega
theorem sset_pw (l : List Int) : (sset l).Pairwise (· < ·) := sset_ord List.Pairwise.nil
structure LackR (wishes : List (Option Int)) (files : List (Int × List (Option Int))) (B : Nat) : Prop where
  len : (lackedI wishes files).length ≤ B * (wishedI wishes).length
  get : ∀ m ∈ wishedI wishes, ∀ (j : Nat) g, dget files m = some g → g[j]? = some none → ∃ k : Nat, tget (lackedI wishes files) m (j : Int) = some (k : Int) ∧ k < (lackedI wishes files).length
theorem min_le : ∀ l : List Int, ∃ b, ∀ m ∈ l, b ≤ m
  | [] => ⟨0, fun m h => by simp at h⟩
  | x :: l => by
    obtain ⟨b, h⟩ := min_le l
    refine ⟨min b x, fun m hm => ?_⟩
    rcases List.mem_cons.mp hm with rfl | hm
    · exact Int.min_le_right _ _
    · exact Int.le_trans (Int.min_le_left _ _) (h m hm)
theorem lackR {wishes : List (Option Int)} {files : List (Int × List (Option Int))} {B : Nat} (hB : ∀ m ∈ wishedI wishes, ∀ g, dget files m = some g → g.length ≤ B) : LackR wishes files B := by
  obtain ⟨b, hb⟩ := min_le (wishedI wishes)
  obtain ⟨⟨b2, i1⟩, i2, i3, i4⟩ := lkOut_fold files B (wishedI wishes) [] b (sset_pw _) hb hB ⟨fun k e h => by simp at h, fun e h => by simp at h⟩
  refine ⟨by rw [List.length_nil, Nat.zero_add] at i4; exact i4, fun m hm j g hg e => ?_⟩
  have hs := i3 m hm j g hg e
  obtain ⟨u, hu⟩ := Option.isSome_iff_exists.mp hs
  have hu0 := hu
  unfold tget at hu
  obtain ⟨x, hx, hx2⟩ := Option.map_eq_some_iff.mp hu
  obtain ⟨k, hk⟩ := List.getElem?_of_mem (List.mem_of_find?_eq_some hx)
  have v := i1.val k x hk
  rw [hx2] at v
  rw [v] at hu0
  exact ⟨k, hu0, (List.getElem?_eq_some_iff.mp hk).1⟩
end Lk

/-! LkG2 -/
set_option Elab.async false
set_option linter.all false
set_option maxRecDepth 100000
set_option maxHeartbeats 4000000
set_option autoImplicit false
/-! What the houses of the law are: all that is asked of them holds. -/
namespace Lk
open PySem PySem.Spec PyProof.Rows L2
open Ty (r)
def primes : List Int := [5, 7, 11, 97, 999999937]
structure Cfg (hands t p : Int) : Prop where
  hh : hands = 2 ∨ hands = 3 ∨ hands = 4
  t0 : 0 ≤ t
  t1 : t < hands
  pp : p ∈ primes
structure WsOk (hands : Int) (n : Nat) (wishes : List (Option Int)) : Prop where
  len : (wishes.length : Int) = hands
  n3 : n ≤ 3
  mem : ∀ u, some u ∈ wishes → 0 ≤ u ∧ u < n
theorem Cfg.p1 {hands t p : Int} (c : Cfg hands t p) : 5 ≤ p ∧ p < 1000000000 := by
  have h := c.pp
  unfold primes at h
  simp at h
  omega
theorem Cfg.sm {hands t p : Int} (c : Cfg hands t p) : smallP p := by have := c.p1; exact ⟨by omega, by omega⟩
theorem Cfg.pr {hands t p : Int} (c : Cfg hands t p) : primeOk p := by
  refine ⟨by have := c.p1; omega, 16000, ?_⟩
  have h := c.pp
  unfold primes at h
  simp at h
  rcases h with rfl | rfl | rfl | rfl | rfl <;> decide +kernel
theorem rng_in {x : Int} {n : Nat} (h0 : 0 ≤ x) (h : x < n) : x ∈ rng 0 n := by
  unfold rng
  rw [List.mem_map]
  exact ⟨x.toNat, by rw [List.mem_range]; omega, by omega⟩
theorem cell_of {hands t p : Int} {n : Nat} {wishes : List (Option Int)} (c : Cfg hands t p) (w : WsOk hands n wishes) : cellIn hands t wishes = true := by
  have hm : ∀ o ∈ wishes, o = none ∨ o = some 0 ∨ o = some 1 ∨ o = some 2 := fun o ho => by
    cases o with
    | none => exact .inl rfl
    | some u =>
      have := w.mem u ho
      have n3 := w.n3
      have : u = 0 ∨ u = 1 ∨ u = 2 := by omega
      rcases this with rfl | rfl | rfl <;> simp
  have hl := w.len
  have t0 := c.t0
  have t1 := c.t1
  rcases c.hh with rfl | rfl | rfl
  · have mem := allWishes_mem (n := 2) (l := wishes) (by omega) hm
    have : t = 0 ∨ t = 1 := by omega
    rcases this with rfl | rfl
    · exact List.all_eq_true.mp cells_2_0 _ mem
    · exact List.all_eq_true.mp cells_2_1 _ mem
  · have mem := allWishes_mem (n := 3) (l := wishes) (by omega) hm
    have : t = 0 ∨ t = 1 ∨ t = 2 := by omega
    rcases this with rfl | rfl | rfl
    · exact List.all_eq_true.mp cells_3_0 _ mem
    · exact List.all_eq_true.mp cells_3_1 _ mem
    · exact List.all_eq_true.mp cells_3_2 _ mem
  · have mem := allWishes_mem (n := 4) (l := wishes) (by omega) hm
    have : t = 0 ∨ t = 1 ∨ t = 2 ∨ t = 3 := by omega
    rcases this with rfl | rfl | rfl | rfl
    · exact List.all_eq_true.mp cells_4_0 _ mem
    · exact List.all_eq_true.mp cells_4_1 _ mem
    · exact List.all_eq_true.mp cells_4_2 _ mem
    · exact List.all_eq_true.mp cells_4_3 _ mem
structure LotOk (hands t : Int) (wishes : List (Option Int)) (lot : List Int) : Prop where
  tk : tOk wishes lot = true
  tl : (termsI wishes lot).length < 100
  te : ∀ e ∈ termsI wishes lot, lotIn e.c = true ∧ (-2 ≤ e.a ∧ e.a ≤ 2) ∧ (0 ≤ numberOf hands e.c ∧ numberOf hands e.c < chooseI hands t) ∧ e.b ∈ wishedI wishes
theorem lotOk_of {hands t : Int} {wishes : List (Option Int)} {lot : List Int} (h : lotTerms hands t wishes lot = true) : LotOk hands t wishes lot := by
  unfold lotTerms at h
  obtain ⟨h, h3⟩ := Bool.and_eq_true_iff.mp h
  obtain ⟨h1, h2⟩ := Bool.and_eq_true_iff.mp h
  refine ⟨h1, of_decide_eq_true h2, fun e he => ?_⟩
  have h := List.all_eq_true.mp h3 e he
  unfold termIn at h
  obtain ⟨h, k4⟩ := Bool.and_eq_true_iff.mp h
  obtain ⟨h, k3⟩ := Bool.and_eq_true_iff.mp h
  obtain ⟨k1, k2⟩ := Bool.and_eq_true_iff.mp h
  exact ⟨k1, of_decide_eq_true k2, of_decide_eq_true k3, of_decide_eq_true k4⟩
structure Cell (hands t : Int) (wishes : List (Option Int)) : Prop where
  mo : madeOk t wishes
  m0 : 0 ≤ madeI t wishes ∧ madeI t wishes < 100
  ml : mlOk t wishes = true
  ll : (madeLots t wishes).length = (madeI t wishes).toNat
  lt : ∀ lot ∈ madeLots t wishes, LotOk hands t wishes lot
  ma : ∀ number, 0 ≤ number → number < madeI t wishes → madeAtOk t wishes number = true ∧ LotOk hands t wishes (madeAt t wishes number)
  lm : lmOk t wishes = true
  lw : (lawMade t wishes).length = (madeI t wishes).toNat
theorem Cfg.cell {hands t p : Int} {n : Nat} {wishes : List (Option Int)} (c : Cfg hands t p) (w : WsOk hands n wishes) : Cell hands t wishes := by
  have h := cell_of c w
  unfold cellIn at h
  obtain ⟨h, h8⟩ := Bool.and_eq_true_iff.mp h
  obtain ⟨h, h7⟩ := Bool.and_eq_true_iff.mp h
  obtain ⟨h, h6⟩ := Bool.and_eq_true_iff.mp h
  obtain ⟨h, h5⟩ := Bool.and_eq_true_iff.mp h
  obtain ⟨h, h4⟩ := Bool.and_eq_true_iff.mp h
  obtain ⟨h, h3⟩ := Bool.and_eq_true_iff.mp h
  obtain ⟨h1, h2⟩ := Bool.and_eq_true_iff.mp h
  have h2 := of_decide_eq_true h2
  refine ⟨of_decide_eq_true h1, h2, h3, of_decide_eq_true h4, fun lot hl => lotOk_of (List.all_eq_true.mp h5 lot hl), fun number n0 n1 => ?_, h7, of_decide_eq_true h8⟩
  have k := List.all_eq_true.mp h6 number (rng_in n0 (by omega))
  obtain ⟨k1, k2⟩ := Bool.and_eq_true_iff.mp k
  exact ⟨k1, lotOk_of k2⟩
structure Grid (hands t : Int) : Prop where
  nk : nk hands t
  c0 : 0 ≤ chooseI hands t ∧ chooseI hands t < 100
  la : ∀ i, 0 ≤ i → i < chooseI hands t → lotAtOk hands t i = true
  ll : llOk hands t = true
  lw : (lawLots hands t).length = (chooseI hands t).toNat
theorem Cfg.grid {hands t p : Int} (c : Cfg hands t p) : Grid hands t := by
  have h : gridIn hands t = true := by
    have t0 := c.t0
    have t1 := c.t1
    have g := List.all_eq_true.mp grid_ok (hands, t) (by
      rcases c.hh with rfl | rfl | rfl
      · have : t = 0 ∨ t = 1 := by omega
        rcases this with rfl | rfl <;> decide
      · have : t = 0 ∨ t = 1 ∨ t = 2 := by omega
        rcases this with rfl | rfl | rfl <;> decide
      · have : t = 0 ∨ t = 1 ∨ t = 2 ∨ t = 3 := by omega
        rcases this with rfl | rfl | rfl | rfl <;> decide)
    exact g
  unfold gridIn at h
  obtain ⟨h, h5⟩ := Bool.and_eq_true_iff.mp h
  obtain ⟨h, h4⟩ := Bool.and_eq_true_iff.mp h
  obtain ⟨h, h3⟩ := Bool.and_eq_true_iff.mp h
  obtain ⟨h1, h2⟩ := Bool.and_eq_true_iff.mp h
  have h2 := of_decide_eq_true h2
  exact ⟨of_decide_eq_true h1, h2, fun i i0 i1 => List.all_eq_true.mp h3 i (rng_in i0 (by omega)), h4, of_decide_eq_true h5⟩
/-- a file -/
def FileOk (hands t p : Int) (f : List Int) : Prop := (f.length : Int) = chooseI hands t ∧ ∀ x ∈ f, (0 : Int) ≤ x ∧ x < p
theorem atI_nn {α : Type} {l : List α} {i : Int} (h0 : 0 ≤ i) : atI l i = l[i.toNat]? := by
  by_cases h : i.toNat < l.length
  · have := atI_nat (l := l) (j := i.toNat) h
    rwa [Int.toNat_of_nonneg h0] at this
  · rw [List.getElem?_eq_none (by omega)]
    unfold atI ixN
    have h1 : ¬ i < 0 := by omega
    simp [h1, h0]
    omega
/-- a day's files -/
structure DF (hands t p : Int) (wishes : List (Option Int)) (files : List (Int × List Int)) : Prop where
  all : ∀ e ∈ files, FileOk hands t p e.2
  has : ∀ m ∈ wishedI wishes, (dget files m).isSome = true
  len : files.length < 64
theorem cryOk_of {hands t p : Int} {n : Nat} {wishes : List (Option Int)} {files : List (Int × List Int)} (c : Cfg hands t p) (w : WsOk hands n wishes) (d : DF hands t p wishes files) {lot : List Int} (hl : lot ∈ madeLots t wishes) : CryOk p files wishes lot := by
  have k := (c.cell w).lt lot hl
  have wl := w.len
  have hh := c.hh
  refine ⟨by have := c.p1; omega, by omega, k.tk, fun e he => ?_, k.tl⟩
  obtain ⟨k1, k2, k3, k4⟩ := k.te e he
  have h1 := d.has _ k4
  obtain ⟨f, hf⟩ := Option.isSome_iff_exists.mp h1
  have f1 := (d.all _ (dget_mem hf)).1
  refine ⟨h1, k1, ?_, k2.1, k2.2⟩
  rw [hf, wl]
  show (atI f (numberOf hands e.c)).isSome = true
  have f1 : (f.length : Int) = chooseI hands t := f1
  exact atI_some k3.1 (by omega)
theorem sdOk_of {hands t p : Int} {n : Nat} (c : Cfg hands t p) {d : DayS} (w : WsOk hands n d.wishes) (df : DF hands t p d.wishes d.files) (hs : 0 ≤ d.spares ∧ d.spares < 1000) : SdOk p t d := by
  have k := c.cell w
  have m0 := k.m0
  exact ⟨c.sm, k.mo, by omega, k.ml, by rw [k.ll]; omega, fun lot hl => cryOk_of c w df hl, hs⟩
/-! ### pieces -/
theorem had_get {hands t hand : Int} (S : List (Int × List Int)) : ∀ (l : List (Int × List Int)) (a : List (Int × List (Option Int))), (∀ e ∈ l, e ∈ S) → (∀ m g, dget a m = some g → ∃ e ∈ S, g = shelfI hands t hand e.2) → (∀ m g, dget (l.foldl (fun a e => dput a e.1 (shelfI hands t hand e.2)) a) m = some g → ∃ e ∈ S, g = shelfI hands t hand e.2) ∧ ∀ m, ((dget l m).isSome = true ∨ (dget a m).isSome = true) → (dget (l.foldl (fun a e => dput a e.1 (shelfI hands t hand e.2)) a) m).isSome = true
  | [], a, _, h => ⟨h, fun m hm => by
    rcases hm with hm | hm
    · unfold dget at hm; simp at hm
    · exact hm⟩
  | x :: l, a, hl, h => by
    rw [List.foldl_cons]
    have step : ∀ m g, dget (dput a x.1 (shelfI hands t hand x.2)) m = some g → ∃ e ∈ S, g = shelfI hands t hand e.2 := fun m g e => by
      rw [dget_dput] at e
      split at e
      · cases e; exact ⟨x, hl x (by simp), rfl⟩
      · exact h m g e
    obtain ⟨i1, i2⟩ := had_get S l (dput a x.1 (shelfI hands t hand x.2)) (fun e he => hl e (List.mem_cons_of_mem _ he)) step
    refine ⟨i1, fun m hm => i2 m ?_⟩
    rw [dget_dput]
    by_cases e : x.1 = m
    · rw [if_pos e]; exact .inr rfl
    · rw [if_neg e]
      rcases hm with hm | hm
      · refine .inl ?_
        unfold dget at hm ⊢
        rw [List.find?_cons, decide_eq_false e] at hm
        exact hm
      · exact .inr hm
theorem shelf_len {hands t hand : Int} {f : List Int} : (shelfI hands t hand f).length = f.length := by
  unfold shelfI
  rw [List.length_map, enm_len]
theorem enm_idx {γ : Type} {l : List γ} {e : Int × γ} (h : e ∈ enm l) : ∃ j : Nat, e.1 = (j : Int) ∧ l[j]? = some e.2 := by
  obtain ⟨j, hj⟩ := List.getElem?_of_mem h
  have hl : j < l.length := by
    have := (List.getElem?_eq_some_iff.mp hj).1
    rwa [enm_len] at this
  have := enm_get (l := l) (i := j) (x := l[j]) (by simp [hl])
  rw [this] at hj
  cases hj
  exact ⟨j, rfl, by simp [hl]⟩
theorem pw_mem {p x here : Int} (hp : 0 < p) (places : List Int) : ∀ (l : List Int) (f : List Int), (∀ y ∈ f, 0 ≤ y ∧ y < p) → ∀ y ∈ l.foldl (fun f here => f ++ [waOne p x places here]) f, 0 ≤ y ∧ y < p
  | [], f, h => h
  | z :: l, f, h => pw_mem hp (here := here) places l _ fun y hy => by
    rcases List.mem_append.mp hy with hy | hy
    · exact h y hy
    · have : y = waOne p x places z := by simpa using hy
      rw [this]
      exact ⟨Int.emod_nonneg _ (Int.ne_of_gt hp), Int.emod_lt_of_pos _ hp⟩
theorem pw_len {p x : Int} (places : List Int) : ∀ (l : List Int) (f : List Int), (l.foldl (fun f here => f ++ [waOne p x places here]) f).length = f.length + l.length
  | [], f => rfl
  | z :: l, f => by
    rw [List.foldl_cons, pw_len places l]
    simp
    omega
theorem weights_ok {p many place : Int} (hp : 1 < p) (hm : 0 ≤ many) : (weightsOf p many place).length = many.toNat ∧ ∀ y ∈ weightsOf p many place, 0 ≤ y ∧ y < p := by
  unfold weightsOf
  split
  · refine ⟨by rw [List.length_map, rng_len], fun y hy => ?_⟩
    obtain ⟨z, _, rfl⟩ := List.mem_map.mp hy
    split <;> omega
  · rename_i h
    unfold placeWeights
    rw [if_neg h]
    unfold weightsAt
    refine ⟨by rw [pw_len, rng_len]; simp, pw_mem (here := 0) (by omega) _ _ _ fun y hy => by simp at hy⟩
theorem rows_w {p many : Int} : ∀ (l : List (Int × Option Int)) (f : List (List Int × Int)), (∀ e ∈ f, ∃ pl, e.1 = weightsOf p many pl) → ∀ e ∈ l.foldl (pcF p many) f, ∃ pl, e.1 = weightsOf p many pl
  | [], f, h => h
  | x :: l, f, h => rows_w l _ fun e he => by
    unfold pcF at he
    cases hx : x.2 with
    | none => rw [hx] at he; exact h e he
    | some u =>
      rw [hx] at he
      rcases List.mem_append.mp he with he | he
      · exact h e he
      · have : e = (weightsOf p many x.1, u) := by simpa using he
        rw [this]
        exact ⟨_, rfl⟩
theorem wish_in {wishes : List (Option Int)} {hand : Int} (h : wishOf wishes hand ≠ none) : ∃ u, atI wishes hand = some (some u) := by
  unfold wishOf at h
  cases e : atI wishes hand with
  | none => rw [e] at h; exact absurd rfl h
  | some o =>
    cases o with
    | none => rw [e] at h; exact absurd rfl h
    | some u => exact ⟨u, rfl⟩
theorem wished_mem {wishes : List (Option Int)} {u : Int} : u ∈ wishedI wishes ↔ some u ∈ wishes := by
  have sm : ∀ (l a : List Int), u ∈ l.foldl (fun a x => insS x a) a ↔ u ∈ l ∨ u ∈ a := fun l => by
    induction l with
    | nil => intro a; simp
    | cons x l ih =>
      intro a
      rw [List.foldl_cons, ih, insS_mem]
      simp only [List.mem_cons]
      constructor
      · rintro (h | h | h)
        · exact .inl (.inr h)
        · exact .inl (.inl h)
        · exact .inr h
      · rintro ((h | h) | h)
        · exact .inr (.inl h)
        · exact .inl h
        · exact .inr (.inr h)
  unfold wishedI sset
  rw [sm]
  simp only [List.mem_map, List.mem_filter, List.not_mem_nil, or_false]
  constructor
  · rintro ⟨o, ⟨h1, h2⟩, h3⟩
    cases o with
    | none => cases h2
    | some x => have h3 : x = u := h3; rw [← h3]; exact h1
  · intro h
    exact ⟨some u, ⟨h, rfl⟩, rfl⟩
/-- a day as it stands: its wishes and files, each hand's row -/
structure DayOk (hands t p : Int) (n : Nat) (d : DayS) : Prop where
  w : WsOk hands n d.wishes
  f : DF hands t p d.wishes d.files
  hl : (d.heard.length : Int) = hands
  hr : ∀ row ∈ d.heard, row.length < 900
theorem pcOk_of {K : PySem.W.Frag} {hands t p : Int} {n : Nat} (c : Cfg hands t p) {d : DayS} (o : DayOk hands t p n d) {hand : Int} (h0 : 0 ≤ hand) (h1 : hand < hands) : PcOk K hands t p d hand := by
  have k := c.cell o.w
  have g := c.grid
  have m0 := k.m0
  have wl := o.w.len
  have hh := c.hh
  have c0 := g.c0
  have fl := o.f.len
  have p1 := c.p1
  have heard := atI_some (l := d.heard) h0 (by rw [o.hl]; exact h1)
  have hrow : ((atI d.heard hand).getD []).length < 900 := by
    obtain ⟨row, hrow⟩ := Option.isSome_iff_exists.mp heard
    rw [hrow]
    exact o.hr row (atI_mem hrow)
  obtain ⟨had1, had2⟩ := had_get (hands := hands) (t := t) (hand := hand) d.files d.files [] (fun e he => he) (fun m g e => by unfold dget at e; simp at e)
  have hadl : ∀ m g, dget (hadOf hands t hand d.files) m = some g → (g.length : Int) = chooseI hands t := fun m g e => by
    obtain ⟨e', he, rfl⟩ := had1 m g e
    rw [shelf_len]
    exact (o.f.all e' he).1
  have hads : ∀ m ∈ wishedI d.wishes, ∃ g, dget (hadOf hands t hand d.files) m = some g := fun m hm => Option.isSome_iff_exists.mp (had2 m (.inl (o.f.has m hm)))
  have L := lackR (wishes := d.wishes) (files := hadOf hands t hand d.files) (B := 100) fun m hm g e => by have := hadl m g e; omega
  have wn : (wishedI d.wishes).length ≤ d.wishes.length := wished_len
  have ln : (lackedI d.wishes (hadOf hands t hand d.files)).length < 900 := by have := L.len; omega
  refine ⟨atI_some h0 (by omega), fun _ => ⟨k.mo, m0.1, by omega⟩, fun _ => ⟨heard, hrow⟩, c.sm, by omega, fun e he => ?_, fun hw => ?_⟩
  · have f1 := (o.f.all e he).1
    refine ⟨by omega, fun x hx => ?_⟩
    obtain ⟨z0, z1, _⟩ := enm_mem hx
    exact g.la x.1 z0 (by omega)
  · obtain ⟨u, hu⟩ := wish_in hw
    have hu2 : u ∈ wishedI d.wishes := wished_mem.mpr (atI_mem hu)
    have wo : (wishOf d.wishes hand).getD 0 = u := by unfold wishOf; rw [hu]; rfl
    refine ⟨⟨by omega, fun m hm => ?_⟩, ln, ?_, fun e he => ?_, c.sm, ⟨u, hu⟩, ?_⟩
    · obtain ⟨g', hg'⟩ := hads m hm
      exact ⟨g', hg', by have := hadl m g' hg'; omega⟩
    · have := pcF_len (p := p) (many := madeI t d.wishes) (enm ((atI d.heard hand).getD [])) []
      rw [enm_len, List.length_nil] at this
      unfold rowsOf
      omega
    · obtain ⟨pl, epl⟩ := rows_w (p := p) (many := madeI t d.wishes) (enm ((atI d.heard hand).getD [])) [] (fun e he => by simp at he) e he
      rw [epl]
      obtain ⟨w1, w2⟩ := weights_ok (p := p) (many := madeI t d.wishes) (place := pl) (by omega) m0.1
      refine ⟨c.sm, by omega, k.mo, by omega, fun x hx => ?_, fun x hx => ?_⟩
      · obtain ⟨_, _, z⟩ := enm_mem hx
        exact w2 x.2 z
      · obtain ⟨z0, z1, _⟩ := enm_mem hx
        obtain ⟨a1, a2⟩ := k.ma x.1 z0 (by omega)
        refine ⟨a1, a2.tk, fun e he => ?_⟩
        obtain ⟨b1, b2, b3, b4⟩ := a2.te e he
        obtain ⟨f, hf⟩ := hads e.b b4
        have fln := hadl _ f hf
        rw [wl]
        have ki : (atI ((dget (hadOf hands t hand d.files) e.b).getD []) (numberOf hands e.c)).isSome = true := by
          rw [hf]
          exact atI_some b3.1 (by show _ < ((f.length : Nat) : Int); omega)
        refine ⟨b1, b2, by rw [hf]; rfl, ki, fun hk => ?_⟩
        unfold keptOf at hk
        obtain ⟨v, hv⟩ := Option.isSome_iff_exists.mp ki
        rw [hv] at hk
        have hk : v = none := hk
        subst hk
        rw [hf] at hv
        have hv : atI f (numberOf hands e.c) = some none := hv
        rw [atI_nn b3.1] at hv
        obtain ⟨j, j1, j2⟩ := L.get e.b b4 _ f hf hv
        rw [Int.toNat_of_nonneg b3.1] at j1
        unfold placeOf
        rw [j1]
        refine ⟨?_, by show (j : Int).toNat < _; omega⟩
        show some (j : Int) = some (((j : Int).toNat : Nat) : Int)
        rw [Int.toNat_natCast]
    · rw [wo]
      obtain ⟨f, hf⟩ := hads u hu2
      refine ⟨f, hf, by have := hadl _ f hf; omega, fun e he hn => ?_⟩
      obtain ⟨j, j1, j2⟩ := enm_idx he
      rw [hn] at j2
      obtain ⟨k', k1, _⟩ := L.get u hu2 j f hf j2
      rw [j1, k1]
      rfl
end Lk

/-! LkG3 -/
set_option Elab.async false
set_option linter.all false
set_option maxRecDepth 100000
set_option maxHeartbeats 4000000
set_option autoImplicit false
/-! The houses: by night, by day, what they tell. -/
namespace Lk
open PySem PySem.Spec PyProof.Rows L2
open Ty (r)
variable {K : PySem.W.Frag}
/-- a house with n files at least -/
structure HGood (hands t p : Int) (n : Nat) (h : Hou K) : Prop where
  hh : h.hands = hands
  ht : h.t = t
  hp : h.p = p
  fl : h.files.length < 60
  fo : ∀ e ∈ h.files, FileOk hands t p e.2
  fk : ∀ m : Int, 0 ≤ m → m < n → (dget h.files m).isSome = true
  nx : (n : Int) ≤ h.next
theorem dn_fold {hf : List (Int × List Int)} {Pf : List Int → Prop} : ∀ (ms : List Int) (a : List (Int × List Int)), (∀ m ∈ ms, Pf ((dget hf m).getD [])) → (∀ e ∈ a, Pf e.2) → (∀ e ∈ ms.foldl (fun a m => dput a m ((dget hf m).getD [])) a, Pf e.2) ∧ (∀ m, m ∈ ms ∨ (dget a m).isSome = true → (dget (ms.foldl (fun a m => dput a m ((dget hf m).getD [])) a) m).isSome = true) ∧ (ms.foldl (fun a m => dput a m ((dget hf m).getD [])) a).length ≤ a.length + ms.length
  | [], a, _, h => ⟨h, fun m hm => by
    rcases hm with hm | hm
    · simp at hm
    · exact hm, Nat.le_refl _⟩
  | x :: ms, a, hP, h => by
    rw [List.foldl_cons]
    obtain ⟨i1, i2, i3⟩ := dn_fold (hf := hf) (Pf := Pf) ms (dput a x ((dget hf x).getD [])) (fun m hm => hP m (List.mem_cons_of_mem _ hm)) fun e he => by
      rcases dput_mem he with he | he
      · exact h e he
      · rw [he]; exact hP x (by simp)
    refine ⟨i1, fun m hm => i2 m ?_, ?_⟩
    · rw [dget_dput]
      by_cases e : x = m
      · rw [if_pos e]; exact .inr rfl
      · rw [if_neg e]
        rcases hm with hm | hm
        · rcases List.mem_cons.mp hm with hm | hm
          · exact absurd hm.symm e
          · exact .inl hm
        · exact .inr hm
    · have := dput_len (l := a) (i := x) (u := (dget hf x).getD [])
      rw [List.length_cons]
      omega
theorem dn_congr {f g : List (Int × List Int)} : ∀ (ms : List Int) (a : List (Int × List Int)), (∀ m ∈ ms, dget f m = dget g m) → ms.foldl (fun a m => dput a m ((dget f m).getD [])) a = ms.foldl (fun a m => dput a m ((dget g m).getD [])) a
  | [], a, _ => rfl
  | x :: ms, a, h => by
    rw [List.foldl_cons, List.foldl_cons, h x (by simp)]
    exact dn_congr ms _ fun m hm => h m (List.mem_cons_of_mem _ hm)
theorem HGood.wf {hands t p : Int} {n : Nat} {h : Hou K} (g : HGood hands t p n h) {wishes : List (Option Int)} (w : WsOk hands n wishes) : ∀ m ∈ wishedI wishes, (dget h.files m).isSome = true := fun m hm => by
  obtain ⟨m0, m1⟩ := w.mem m (wished_mem.mp hm)
  exact g.fk m m0 m1
theorem dayOk_new {hands t p : Int} {n : Nat} (c : Cfg hands t p) {h : Hou K} (g : HGood hands t p n h) {wishes : List (Option Int)} (w : WsOk hands n wishes) (s : Int) : DayOk hands t p n (dayNew h wishes s) := by
  have hh := c.hh
  have wl := w.len
  have wn : (wishedI wishes).length ≤ wishes.length := wished_len
  obtain ⟨i1, i2, i3⟩ := dn_fold (hf := h.files) (Pf := FileOk hands t p) (wishedI wishes) [] (fun m hm => by
    obtain ⟨f, hf⟩ := Option.isSome_iff_exists.mp (g.wf w m hm)
    rw [hf]
    exact g.fo _ (dget_mem hf)) (fun e he => by simp at he)
  refine ⟨w, ⟨i1, fun m hm => i2 m (.inl hm), ?_⟩, ?_, fun row hr => ?_⟩
  · have i3 : (dayNew h wishes s).files.length ≤ 0 + (wishedI wishes).length := i3
    omega
  · show (((List.replicate h.hands.toNat ([] : List (Option Int))).length : Nat) : Int) = hands
    rw [List.length_replicate, g.hh]
    omega
  · have : row = [] := List.eq_of_mem_replicate hr
    rw [this]
    decide
theorem dyOk_of {hands t p : Int} {n : Nat} (c : Cfg hands t p) {h : Hou K} (g : HGood hands t p n h) {wishes : List (Option Int)} (w : WsOk hands n wishes) {s : Int} (hb : h.byDay = false) (s0 : 0 ≤ s ∧ s < 1000) (s1 : s = 0 ∨ madeI t wishes + s ≤ p) : DyOk h wishes s := by
  have hh := c.hh
  have wl := w.len
  have fl := g.fl
  have k := c.cell w
  have o := dayOk_new c g w s
  refine ⟨hb, by omega, by rw [g.hh]; exact wl, by omega, fun u hu => ?_, by rw [g.ht]; exact k.mo, s0, by rw [g.ht, g.hp]; exact s1, g.wf w, by rw [g.ht, g.hp]; exact sdOk_of c o.w o.f s0⟩
  obtain ⟨u0, u1⟩ := w.mem u hu
  obtain ⟨f, hf⟩ := Option.isSome_iff_exists.mp (g.fk u u0 u1)
  refine ⟨u0, (isort_perm _).mem_iff.mpr (List.mem_map.mpr ⟨_, dget_mem hf, rfl⟩)⟩
/-! ### brought files -/
theorem enm_snoc {γ : Type} {l : List γ} {x : γ} : enm (l ++ [x]) = enm l ++ [((l.length : Int), x)] := by
  unfold enm
  rw [List.zipIdx_append]
  simp
theorem enm_any {γ : Type} {l : List γ} : ((enm l).any fun e => decide (e.1 = (l.length : Int))) = false := by
  rw [← Bool.not_eq_true, List.any_eq_true]
  rintro ⟨e, h1, h2⟩
  have h2 := of_decide_eq_true h2
  obtain ⟨_, h3, _⟩ := enm_mem h1
  omega
theorem dput_enm {γ : Type} {l : List γ} {x : γ} : dput (enm l) (l.length : Int) x = enm (l ++ [x]) := by
  unfold dput
  rw [enm_any, enm_snoc]
  rfl
theorem dget_enm {γ : Type} {l : List γ} {m : Nat} {x : γ} (h : l[m]? = some x) : dget (enm l) (m : Int) = some x := by
  have hs : (dget (enm l) (m : Int)).isSome = true := by
    unfold dget
    rw [Option.isSome_map, List.find?_isSome]
    exact ⟨_, List.mem_of_getElem? (enm_get h), by simp⟩
  obtain ⟨y, hy⟩ := Option.isSome_iff_exists.mp hs
  obtain ⟨j, h1, h2⟩ := enm_idx (dget_mem hy)
  have h1 : (m : Int) = j := h1
  have : j = m := by omega
  subst this
  have h2 : l[j]? = some y := h2
  rw [h] at h2
  cases h2
  exact hy
/-- by night, the first of some files brought -/
structure HNew (hands t p : Int) (l : List (List Int)) (h : Hou K) : Prop where
  hh : h.hands = hands
  ht : h.t = t
  hp : h.p = p
  fs : h.files = enm l
  nx : h.next = l.length
  bd : h.byDay = false
theorem hNew0 {hands t p : Int} : HNew hands t p [] (hou0 K hands t p) := ⟨rfl, rfl, rfl, rfl, rfl, rfl⟩
def brg (h : Hou K) (f : List Int) : Hou K := { h with files := dput h.files h.next f, next := h.next + 1 }
theorem HNew.bring {hands t p : Int} {l : List (List Int)} {h : Hou K} (g : HNew hands t p l h) (f : List Int) : HNew hands t p (l ++ [f]) (brg h f) :=
  ⟨g.hh, g.ht, g.hp, by show dput h.files h.next f = _; rw [g.fs, g.nx]; exact dput_enm, by show h.next + 1 = _; rw [g.nx, List.length_append]; simp, g.bd⟩
theorem HNew.good {hands t p : Int} {l : List (List Int)} {h : Hou K} (g : HNew hands t p l h) (hl : l.length < 60) (hf : ∀ f ∈ l, FileOk hands t p f) : HGood hands t p l.length h := by
  refine ⟨g.hh, g.ht, g.hp, by rw [g.fs, enm_len]; exact hl, fun e he => ?_, fun m m0 m1 => ?_, by rw [g.nx]; exact Int.le_refl _⟩
  · rw [g.fs] at he
    exact hf _ (enm_mem he).2.2
  · rw [g.fs]
    obtain ⟨j, rfl⟩ := Int.eq_ofNat_of_zero_le m0
    have hj : j < l.length := by omega
    have := dget_enm (l := l) (m := j) (x := l[j]) (by simp [hj])
    rw [this]
    rfl
/-- what bring asks -/
def BrOk (h : Hou K) (file : List Int) : Prop := h.byDay = false ∧ nk h.hands h.t ∧ (file.length : Int) = chooseI h.hands h.t ∧ file.length < 1000 ∧ (∀ x ∈ file, (0 : Int) ≤ x ∧ x < h.p) ∧ h.files.length < 1000
theorem brOk_of {hands t p : Int} (c : Cfg hands t p) {h : Hou K} (h1 : h.hands = hands) (h2 : h.t = t) (h3 : h.p = p) (hb : h.byDay = false) (hl : h.files.length < 1000) {f : List Int} (hf : FileOk hands t p f) : BrOk h f := by
  have g := c.grid
  have c0 := g.c0
  obtain ⟨f1, f2⟩ := hf
  exact ⟨hb, by rw [h1, h2]; exact g.nk, by rw [h1, h2]; exact f1, by omega, by rw [h3]; exact f2, hl⟩
/-! ### by day -/
/-- a house in the turn i of the day D (whose cries are CS), the rows hd -/
structure HDay (hands t p : Int) (n : Nat) (D : DayS) (CS : List Int) (i : Nat) (hd : List (List (Option Int))) (h : Hou K) : Prop where
  g : HGood hands t p n h
  bd : h.byDay = true
  dy : h.day = some { D with heard := hd }
  cr : h.cries = CS
  hl : (hd.length : Int) = hands
  hr : ∀ row ∈ hd, row.length = i
theorem HDay.dayOk {hands t p : Int} {n : Nat} {D : DayS} {CS : List Int} {i : Nat} {hd : List (List (Option Int))} {h : Hou K} (g : HDay hands t p n D CS i hd h) (o : DayOk hands t p n D) (hi : i < 900) : DayOk hands t p n { D with heard := hd } := ⟨o.w, o.f, g.hl, fun row hr => by rw [g.hr row hr]; exact hi⟩
theorem heardLen_of {hands t p : Int} {n : Nat} {D : DayS} {CS : List Int} {i : Nat} {hd : List (List (Option Int))} {h : Hou K} (c : Cfg hands t p) (g : HDay hands t p n D CS i hd h) : hd ≠ [] ∧ heardLen { D with heard := hd } = i := by
  have hl := g.hl
  have hh := c.hh
  cases e : hd with
  | nil => rw [e] at hl; simp at hl; omega
  | cons x l =>
    refine ⟨by simp, ?_⟩
    show (List.headD (x :: l) []).length = i
    exact g.hr x (by rw [e]; simp)
theorem nextN_of {hands t p : Int} {n : Nat} {D : DayS} {CS : List Int} {i : Nat} {hd : List (List (Option Int))} {h : Hou K} (c : Cfg hands t p) (g : HDay hands t p n D CS i hd h) : nextN h = (atI CS (i : Int)).getD 0 := by
  unfold nextN
  rw [g.cr, g.dy]
  show (atI CS ((heardLen { D with heard := hd } : Nat) : Int)).getD 0 = _
  rw [(heardLen_of c g).2]
def CallOk (h : Hou K) : Prop := h.byDay = true ∧ ∃ d, h.day = some d ∧ d.heard ≠ [] ∧ heardLen d < h.cries.length ∧ h.cries.length < 1000000 ∧ (∀ row ∈ d.heard, row.length < 100000)
theorem callOk_of {hands t p : Int} {n : Nat} {D : DayS} {CS : List Int} {i : Nat} {hd : List (List (Option Int))} {h : Hou K} (c : Cfg hands t p) (g : HDay hands t p n D CS i hd h) (hi : i < CS.length) (hc : CS.length < 1000) : CallOk h := by
  obtain ⟨h1, h2⟩ := heardLen_of c g
  exact ⟨g.bd, _, g.dy, h1, by rw [h2, g.cr]; exact hi, by rw [g.cr]; omega, fun row hr => by rw [g.hr row hr]; omega⟩
def callH (h : Hou K) : Hou K := { h with day := h.day.map (callD h) }
theorem call_len {heard : List (List (Option Int))} {away : List (Int × Bool)} {number : Int} : (callHeard heard away number).length = heard.length := by
  unfold callHeard
  rw [List.length_map, enm_len]
theorem HDay.call {hands t p : Int} {n : Nat} {D : DayS} {CS : List Int} {i : Nat} {hd : List (List (Option Int))} {h : Hou K} (c : Cfg hands t p) (g : HDay hands t p n D CS i hd h) : HDay hands t p n D CS (i + 1) (callHeard hd h.away ((atI CS (i : Int)).getD 0)) (callH h) := by
  refine ⟨⟨g.g.hh, g.g.ht, g.g.hp, g.g.fl, g.g.fo, g.g.fk, g.g.nx⟩, g.bd, ?_, g.cr, by rw [call_len]; exact g.hl, fun row hr => ?_⟩
  · show h.day.map (callD h) = _
    rw [g.dy]
    show some { D with heard := callHeard hd h.away (nextN h) } = _
    rw [nextN_of c g]
  · unfold callHeard at hr
    obtain ⟨e, he, rfl⟩ := List.mem_map.mp hr
    rw [List.length_append, g.hr _ (enm_mem he).2.2]
    rfl
theorem atI_call {heard : List (List (Option Int))} {away : List (Int × Bool)} {number one : Int} {row : List (Option Int)} (h0 : 0 ≤ one) (h : atI heard one = some row) : atI (callHeard heard away number) one = some (row ++ [hear away number one]) := by
  rw [atI_nn h0] at h ⊢
  unfold callHeard
  rw [List.getElem?_map, enm_get h]
  show some (row ++ [hear away number ((one.toNat : Nat) : Int)]) = _
  rw [Int.toNat_of_nonneg h0]
/-! ### away and home -/
theorem dget_ddrop {α : Type} {l : List (Int × α)} {i : Int} (m : Int) : dget (ddrop l i) m = if i = m then none else dget l m := by
  unfold ddrop
  by_cases h : i = m
  · subst h
    rw [if_pos rfl]
    unfold dget
    rw [Option.map_eq_none_iff, List.find?_eq_none]
    intro e he h2
    have := (List.mem_filter.mp he).2
    rw [of_decide_eq_true h2] at this
    simp at this
  · rw [if_neg h]
    unfold dget
    congr 1
    induction l with
    | nil => rfl
    | cons e l ih =>
      rw [List.filter_cons]
      by_cases h1 : e.1 = i
      · rw [if_neg (by simp [h1]), ih, List.find?_cons, decide_eq_false (fun z => h (h1.symm.trans z))]
      · rw [if_pos (by simp [h1]), List.find?_cons, List.find?_cons, ih]
def awayH (h : Hou K) (hand : Int) : Hou K := { h with away := if (dget h.away hand).isSome = true then h.away else dput h.away hand true }
def homeH (h : Hou K) (hand : Int) : Hou K := { h with away := ddrop h.away hand }
theorem awayH_get {h : Hou K} {hand : Int} (m : Int) : (dget (awayH h hand).away m).isSome = (decide (hand = m) || (dget h.away m).isSome) := by
  show (dget (if (dget h.away hand).isSome = true then h.away else dput h.away hand true) m).isSome = _
  by_cases e : hand = m
  · subst e
    rw [decide_eq_true rfl, Bool.true_or]
    split
    · assumption
    · rw [dget_dput, if_pos rfl]; rfl
  · rw [decide_eq_false e, Bool.false_or]
    split
    · rfl
    · rw [dget_dput, if_neg e]
theorem homeH_get {h : Hou K} {hand : Int} (m : Int) : (dget (homeH h hand).away m).isSome = (!decide (hand = m) && (dget h.away m).isSome) := by
  show (dget (ddrop h.away hand) m).isSome = _
  rw [dget_ddrop]
  by_cases e : hand = m
  · simp [e]
  · simp [e]
theorem awayH_len {h : Hou K} {hand : Int} : (awayH h hand).away.length ≤ h.away.length + 1 := by
  show (if (dget h.away hand).isSome = true then h.away else dput h.away hand true).length ≤ _
  split
  · omega
  · exact dput_len
theorem homeH_len {h : Hou K} {hand : Int} : (homeH h hand).away.length ≤ h.away.length := List.length_filter_le _ _
theorem HDay.aw {hands t p : Int} {n : Nat} {D : DayS} {CS : List Int} {i : Nat} {hd : List (List (Option Int))} {h : Hou K} (g : HDay hands t p n D CS i hd h) {a : List (Int × Bool)} : HDay hands t p n D CS i hd ({ h with away := a } : Hou K) := ⟨⟨g.g.hh, g.g.ht, g.g.hp, g.g.fl, g.g.fo, g.g.fk, g.g.nx⟩, g.bd, g.dy, g.cr, g.hl, g.hr⟩
/-! ### the day begins -/
theorem HGood.day {hands t p : Int} {n : Nat} (c : Cfg hands t p) {h : Hou K} (g : HGood hands t p n h) {wishes : List (Option Int)} (w : WsOk hands n wishes) (s : Int) : HDay hands t p n (dayNew h wishes s) (dayCries p t (dayNew h wishes s)) 0 (List.replicate hands.toNat []) (dayH h wishes s) := by
  have hh := c.hh
  refine ⟨⟨g.hh, g.ht, g.hp, g.fl, g.fo, g.fk, g.nx⟩, rfl, ?_, ?_, by rw [List.length_replicate]; omega, fun row hr => by rw [List.eq_of_mem_replicate hr]; rfl⟩
  · show some (dayNew h wishes s) = _
    unfold dayNew
    rw [g.hh]
  · show dayCries h.p h.t (dayNew h wishes s) = _
    rw [g.hp, g.ht]
theorem day_len {hands t p : Int} {n : Nat} (c : Cfg hands t p) {d : DayS} (w : WsOk hands n d.wishes) (hs : 0 ≤ d.spares) : (dayCries p t d).length = (madeI t d.wishes).toNat + d.spares.toNat := by
  have k := c.cell w
  have e : (criesI p t d.files d.wishes).length = (madeI t d.wishes).toNat := by
    unfold criesI
    rw [List.length_map, k.ll]
  unfold dayCries
  split
  · unfold withSpares
    rw [List.length_append, List.length_map, rng_len, e]
  · rename_i h
    have h : ¬ 0 < d.spares := fun z => h (decide_eq_true z)
    rw [e]
    omega
def NightOk (h : Hou K) : Prop := h.byDay = true ∧ ∃ d, h.day = some d ∧ d.wishes.length < 1000 ∧ ∀ e ∈ enm d.wishes, e.2 ≠ none → (0 ≤ e.1 ∧ e.1 < h.hands) ∧ PcOk K h.hands h.t h.p d e.1
theorem nightOk_of {hands t p : Int} {n : Nat} {D : DayS} {CS : List Int} {i : Nat} {hd : List (List (Option Int))} {h : Hou K} (c : Cfg hands t p) (g : HDay hands t p n D CS i hd h) (o : DayOk hands t p n D) (hi : i < 900) : NightOk h := by
  have wl := o.w.len
  have hh := c.hh
  refine ⟨g.bd, _, g.dy, by show D.wishes.length < 1000; omega, fun e he _ => ?_⟩
  obtain ⟨z0, z1, _⟩ := enm_mem he
  have z1 : e.1 < (D.wishes.length : Int) := z1
  rw [g.g.hh, g.g.ht, g.g.hp]
  exact ⟨⟨z0, by omega⟩, pcOk_of c (g.dayOk o hi) z0 (by omega)⟩
/-- what is asked of what hears, knows -/
theorem tellOk_of {hands t p : Int} {n : Nat} {d : DayS} {h : Hou K} (c : Cfg hands t p) (h1 : h.hands = hands) (h2 : h.t = t) (h3 : h.p = p) (hd : h.day = some d) (o : DayOk hands t p n d) {one : Int} (o0 : 0 ≤ one) (o1 : one < hands) : (0 ≤ one ∧ one < h.hands) ∧ (∀ d, h.day = some d → PcOk K h.hands h.t h.p d one) ∧ ∀ d, h.day = some d → (atI d.heard one).isSome = true := by
  rw [h1, h2, h3]
  refine ⟨⟨o0, o1⟩, fun d' e => ?_, fun d' e => ?_⟩
  · rw [hd] at e; cases e
    exact pcOk_of c o o0 o1
  · rw [hd] at e; cases e
    exact atI_some o0 (by rw [o.hl]; exact o1)
theorem dayNew_congr {h g : Hou K} {wishes : List (Option Int)} {s : Int} (e1 : h.hands = g.hands) (e2 : ∀ m ∈ wishedI wishes, dget h.files m = dget g.files m) : dayNew h wishes s = dayNew g wishes s := by
  unfold dayNew
  rw [e1, dn_congr _ _ e2]
/-- by night, its first files are some -/
structure HX (hands t p : Int) (l : List (List Int)) (h : Hou K) : Prop where
  g : HGood hands t p l.length h
  bd : h.byDay = false
  eq : ∀ m : Int, 0 ≤ m → m < l.length → dget h.files m = dget (enm l) m
theorem HNew.hx {hands t p : Int} {l l2 : List (List Int)} {h : Hou K} (g : HNew hands t p (l ++ l2) h) (hl : (l ++ l2).length < 60) (hf : ∀ f ∈ l ++ l2, FileOk hands t p f) : HX hands t p l h := by
  have q := g.good hl hf
  refine ⟨⟨q.hh, q.ht, q.hp, q.fl, q.fo, fun m m0 m1 => q.fk m m0 (by rw [List.length_append]; omega), by have := q.nx; rw [List.length_append] at this; omega⟩, g.bd, fun m m0 m1 => ?_⟩
  obtain ⟨j, rfl⟩ := Int.eq_ofNat_of_zero_le m0
  have hj : j < l.length := by omega
  rw [g.fs, dget_enm (l := l) (m := j) (x := l[j]) (by simp [hj]), dget_enm (l := l ++ l2) (m := j) (x := l[j]) (by rw [List.getElem?_append_left hj]; simp [hj])]
theorem HX.drop {hands t p : Int} {l : List (List Int)} {h : Hou K} (g : HX hands t p l h) {x : Int} (hx : (l.length : Int) ≤ x) : HX hands t p l ({ h with files := ddrop h.files x } : Hou K) := by
  have q := g.g
  have ne : ∀ m : Int, m < l.length → dget (ddrop h.files x) m = dget h.files m := fun m hm => by rw [dget_ddrop, if_neg (by omega)]
  refine ⟨⟨q.hh, q.ht, q.hp, Nat.lt_of_le_of_lt (List.length_filter_le _ _) q.fl, fun e he => q.fo e (List.mem_filter.mp he).1, fun m m0 m1 => ?_, q.nx⟩, g.bd, fun m m0 m1 => ?_⟩
  · show (dget (ddrop h.files x) m).isSome = true
    rw [ne m m1]; exact q.fk m m0 m1
  · show dget (ddrop h.files x) m = _
    rw [ne m m1]; exact g.eq m m0 m1
theorem HX.aw {hands t p : Int} {l : List (List Int)} {h : Hou K} (g : HX hands t p l h) {a : List (Int × Bool)} : HX hands t p l ({ h with away := a } : Hou K) := ⟨⟨g.g.hh, g.g.ht, g.g.hp, g.g.fl, g.g.fo, g.g.fk, g.g.nx⟩, g.bd, g.eq⟩
theorem HX.same {hands t p : Int} {n : Nat} {l : List (List Int)} {h h2 : Hou K} (g : HX hands t p l h) (g2 : HX hands t p l h2) {wishes : List (Option Int)} (w : WsOk hands l.length wishes) (s : Int) : dayNew h wishes s = dayNew h2 wishes s :=
  dayNew_congr (g.g.hh.trans g2.g.hh.symm) fun m hm => by
    obtain ⟨m0, m1⟩ := w.mem m (wished_mem.mp hm)
    rw [g.eq m m0 m1, g2.eq m m0 m1]
end Lk

/-! LkK6 -/
set_option Elab.async false
set_option linter.all false
set_option maxRecDepth 100000
set_option maxHeartbeats 4000000
set_option autoImplicit false
/-! More rules of what changes things. -/
namespace Lk
open PySem PySem.Spec PyProof.Rows L2
open Ty (r)
theorem PotAt.up {q : Addr} {n m : Int} {C : Hp} (h : PotAt q n C) (hm : n ≤ m) : PotAt q m C := let ⟨a, b, c, e, r1, r2, r3⟩ := h.ex; ⟨a, b, c, e, r1, r2, r3.1, by omega⟩
theorem potUp {q : Addr} {n m : Int} {Ws : List Th} {H : Hp} (h : n ≤ m) (s : Sep (PotT q n :: Ws) H) : Sep (PotT q m :: Ws) H := s.weak fun _ k => PotAt.up k h
section
variable {X : Cx} {H0 : Hp} {G : List Slot} {e a b c o tg : Expr} {es elts : List Expr} {st : Stmt} {pos p p1 p2 p' apos tpos : Pos} {kk : Nat} {Ts Us : List Th} {R R' : V → Hp → Prop} {Rb Rb' : Bool → Hp → Prop} {Ra : List V → Hp → Prop} {D : Ends} {rest body els : List Stmt}
theorem ESt.weak (h : ESt X G e Ts Rb) (k : ∀ v H, Rb v H → Rb' v H) : ESt X G e Ts Rb' := fun σ H Q a s q => h σ H Q a s fun v H' kt r => q v H' kt (k v H' r)
theorem ESt.pre (h : ESt X G e Us Rb) (k : ∀ H, Sep Ts H → Sep Us H) : ESt X G e Ts Rb := fun σ H Q a s q => h σ H Q a (k H s) q
/-! ### numbers -/
theorem es_gtI {A : Type} {φ : A → Prop} {f : A → Int} {Fs : A → List Th} {y : Int} [g : ImG G] (ha : ES X G a Ts (fun v H => ∃ x, φ x ∧ Sep (ValT v (f x) :: Fs x) H)) (hb : ∀ x H0, Sep (Fs x) H0 → E X H0 G b (Val y)) (hm : behindInMarks .Gt b = false := by first | exact nomark _ | rfl) : ES X G (.Compare a [.Gt] [b] pos) Ts (fun v H => ∃ x, φ x ∧ Sep (ValT v (decide (y < f x)) :: Fs x) H) := fun σ H Q h0 s q =>
  pe_out (pe_cmpR op_gt pe_in pe_in hm) (ha σ H _ h0 s fun v H1 k1 ⟨x, fx, sx⟩ => hb x H1 sx.drop σ H1 _ (h0.ims g k1 (Same.refl H1)) fun w H2 s2 p2 => by
    have p1 : v = .int (f x) := sx.at0
    have p2 : w = .int y := p2
    subst p1 p2
    exact ⟨f x, y, rfl, rfl, q _ H2 (KeepT.trans k1 (keepT s2)) ⟨x, fx, Sep.im (sx.drop.mono s2) rfl⟩⟩)
theorem est_eqI {A : Type} {φ : A → Prop} {f : A → Int} {Fs : A → List Th} {y : Int} [g : ImG G] (ha : ES X G a Ts (fun v H => ∃ x, φ x ∧ Sep (ValT v (f x) :: Fs x) H)) (hb : ∀ x H0, Sep (Fs x) H0 → E X H0 G b (Val y)) (hm : behindInMarks .Eq b = false := by first | exact nomark _ | rfl) : ESt X G (.Compare a [.Eq] [b] pos) Ts (fun k H => ∃ x, φ x ∧ k = decide (f x = y) ∧ Sep (Fs x) H) := fun σ H Q h0 s q =>
  pt_out (pt_cmpR op_eq pe_in pe_in hm) (ha σ H _ h0 s fun v H1 k1 ⟨x, fx, sx⟩ => hb x H1 sx.drop σ H1 _ (h0.ims g k1 (Same.refl H1)) fun w H2 s2 p2 => by
    have p1 : v = .int (f x) := sx.at0
    have p2 : w = .int y := p2
    subst p1 p2
    exact ⟨rfl, _, rfl, q _ H2 (KeepT.trans k1 (keepT s2)) ⟨x, fx, dV _ _, sx.drop.mono s2⟩⟩)
/-- x + e -/
theorem es_addI {A : Type} {φ : A → Prop} {f : A → Int} {Fs : A → List Th} {y : Int} [g : ImG G] (ha : ∀ H0, Sep Ts H0 → E X H0 G a (Val y)) (hb : ES X G b Ts (fun v H => ∃ x, φ x ∧ Sep (ValT v (f x) :: Fs x) H)) : ES X G (.BinOp a .Add b pos) Ts (fun v H => ∃ x, φ x ∧ Sep (ValT v (y + f x) :: Fs x) H) := fun σ H Q h0 s q =>
  pe_out (pe_op op_add pe_in pe_in) (ha H s σ H _ h0 fun v H1 s1 p1 => hb σ H1 _ (h0.ims g (keepT s1) (Same.refl H1)) (s.mono s1) fun w H2 k2 ⟨x, fx, sx⟩ => by
    have p1 : v = .int y := p1
    have p2 : w = .int (f x) := sx.at0
    subst p1 p2
    exact ⟨y, f x, rfl, rfl, q _ H2 (KeepT.trans (keepT s1) k2) ⟨x, fx, Sep.im sx.drop rfl⟩⟩)
/-! ### and -/
def EWt (X : Cx) (G : List Slot) (e : Expr) (Ts : List Th) (Rb : Bool → Hp → Prop) : Prop := ∀ σ H Q, At H G σ H → Sep Ts H → (∀ b H', KeepT H H' → Rb b H' → Q b H') → tW X e σ H Q
theorem est_w (h : EWt X G e Ts Rb) : ESt X G e Ts Rb := fun σ H Q a s q => pt_out pw_in.pt (h σ H Q a s q)
theorem ewt_and1 (ha : ESt X G a Ts Rb) : EWt X G (.BoolOp .And [a] pos) Ts Rb := fun σ H Q h0 s q => pw_out (pw_and1 pt_in) (ha σ H Q h0 s q)
theorem ewt_and {A : Type} {Fs : A → List Th} [g : ImG G] (ha : ESt X G a Ts (fun k H => if k = true then ∃ x, Sep (Fs x) H else Rb false H)) (hb : ∀ x, EWt X G (.BoolOp .And (b :: es) pos) (Fs x) Rb) : EWt X G (.BoolOp .And (a :: b :: es) pos) Ts Rb := fun σ H Q h0 s q =>
  pw_out (pw_and pt_in pw_in) (ha σ H _ h0 s fun k H1 k1 r1 => by
    cases k with
    | true =>
      obtain ⟨x, sx⟩ := r1
      exact hb x σ H1 Q (h0.ims g k1 (Same.refl H1)) sx fun b H2 k2 r2 => q b H2 (KeepT.trans k1 k2) r2
    | false => exact q false H1 k1 r1)
theorem est_not (ha : ESt X G a Ts Rb) : ESt X G (.UnaryOp .Not a pos) Ts (fun k H => Rb (!k) H) := fun σ H Q h0 s q => pt_out (pt_not pt_in) (ha σ H _ h0 s fun k H1 k1 r1 => q (!k) H1 k1 (by show Rb (!!k) H1; rw [Bool.not_not]; exact r1))
theorem est_val {A : Type} {φ : A → Prop} {f : A → Bool} {Fs : A → List Th} (ha : ES X G e Ts (fun v H => ∃ x, φ x ∧ Sep (ValT v (f x) :: Fs x) H)) (he : ∀ whole, isTrue e X.env whole = (do let v ← whole; standAt e.pos; holding [v] (truthy v)) := by intro _; rfl) : ESt X G e Ts (fun k H => ∃ x, φ x ∧ k = f x ∧ Sep (Fs x) H) := fun σ H Q h0 s q =>
  pt_out (pt_val pe_in he) (ha σ H _ h0 s fun v H1 k1 ⟨x, fx, sx⟩ => ⟨f x, sx.at0, q _ H1 k1 ⟨x, fx, rfl, sx.drop⟩⟩)
/-! ### lists -/
theorem e_lst2 {α : Type} [Im α] {u w : α} (ha : E X H0 G a (Val u)) (hb : E X H0 G b (Val w)) (hs : starEach [a, b] X.env = (false, eval a X.env) :: starEach [b] X.env := by rfl) (hs2 : starEach [b] X.env = (false, eval b X.env) :: starEach [] X.env := by rfl) : E X H0 G (.List [a, b] pos) (New (Lst.mk [u, w])) := fun σ H Q h0 q =>
  pe_out (pe_lst (pa_cons pe_in (pa_cons pe_in pa_nil hs2) hs)) (ha σ H _ h0 fun v1 H1 s1 p1 => hb σ H1 _ (h0.ext s1) fun v2 H2 s2 p2 => ⟨szl (by show (2 : Nat) < 1000000; decide), fun m hm => by
    have s03 := Same.trans s1 s2
    have sn := Same.trans s03 (Same.new (o := .lst [v1, v2]) hm)
    exact q _ _ sn ⟨m, _, rfl, cut_new (Same.free s03 hm) upd_same, .cons (Im.keep (keep_cut sn) (Ty.mono (Same.trans s2 (Same.new hm)) p1)) (.cons (Im.keep (keep_cut sn) (Ty.mono (Same.new hm) p2)) .nil)⟩⟩)
theorem A2.opt {α : Type} [Im α] {l : List α} {xs : List V} {H : Hp} (h : A2 l xs H) : A2 (l.map Option.some) xs H := by
  unfold A2 at h ⊢
  induction h with
  | nil => exact .nil
  | cons f _ ih => exact .cons f ih
theorem E.optL {α : Type} [Im α] {l : List α} (h : E X H0 G e (Val (Lst.mk l))) : E X H0 G e (Val (Lst.mk (l.map Option.some))) := h.weak fun H v H' s ⟨q, xs, e1, e2, e3⟩ => ⟨q, xs, e1, e2, A2.opt (l := l) e3⟩
theorem bs_app {A α : Type} [Im α] {φ : A → Prop} {f : A → α} {l : List α} {L : Addr} {Fs : A → List Th} [g : ImG G] (hS : Sep Ts H0) (ho : ∀ H0, Sep Ts H0 → E X H0 G o (Val (Adr.mk L))) (hL : ∀ H, Sep Ts H → r (Lst.mk l) (.ref L) H) (hl : l.length < 1000000) (he : ES X G e Ts (fun v H => ∃ x, φ x ∧ Sep (ValT v (f x) :: ValT (.ref L) (Lst.mk l) :: Fs x) H)) (hr : ∀ x H1, φ x → Sep (ValT (.ref L) (Lst.mk (l ++ [f x])) :: Fs x) H1 → B X H1 G rest D)
    (hs : starEach [e] X.env = (false, eval e X.env) :: starEach [] X.env := by rfl) (hb : attributeBase o "append" X.env (eval o X.env) = eval o X.env := by rfl) (hline : (p2.endLine == p'.line) = true := by rfl)
    (hfew : ((backTo p' (starEach [e] X.env)).all (fun x => !x.1) && (backToKw p' (keywordEach [] X.env)).all (fun x => x.1.isSome) && decide ([e].length + ([] : List Keyword).length + (if ([] : List Keyword).isEmpty then 0 else 1) < 30)) = true := by rfl) (hpl : (backTo p' (starEach [] X.env)).any (·.1) = false := by rfl)
    (hsw : swapsWith (.Call (.Attribute o "append" p2) [e] [] p') none pos.line X.env = pure false := by rfl) : B X H0 G (.Expr (.Call (.Attribute o "append" p2) [e] [] p') pos :: rest) D := B.seq fun σ H h0 => by
  have s0 := hS.mono h0.same
  have a0 := h0.self g
  refine ps_out (ps_expr (pe_bm F.plainAttrs_list F.slot_list_append F.type_list_append mt_append pe_in (pa_cons pe_in pa_nil hs) hb hfew hline hs hpl) hsw) ?_
  refine ho H s0 σ H _ a0 fun w H1 s1 p1 => ?_
  have p1 : w = .ref L := p1
  subst p1
  obtain ⟨L', xs, e1, e2, e3⟩ := hL H1 (s0.mono s1)
  cases e1
  refine ⟨.inl ⟨rfl, xs, .inl (.inl e2)⟩, he σ H1 _ (a0.ims g (keepT s1) (Same.refl H1)) (s0.mono s1) fun v H2 k2 ⟨x, fx, sx⟩ => ?_⟩
  obtain ⟨acc, g1, g2, g3, g4⟩ := Sep.push sx
  have hz : acc.length < sizeLine := by
    have : sizeLine = 16777216 := by decide
    omega
  exact ⟨L, acc, v, rfl, rfl, g1, hz, hr x _ fx g4 σ _ (a0.ims g (KeepT.trans (KeepT.trans (keepT s1) k2) g3) (Same.refl _))⟩
/-- a loop over a new list -/
theorem bs_forX {A : Type} {φ : A → Prop} {Fs : A → List Th} {iter : Expr} {γ : Type} [Im γ] {ls : A → List γ} {js : List Nat} {up : γ → List Slot → List Slot} (Gs : List Slot) [gs : ImG Gs] [g : ImG G] (Ss : A → Nat → List Th → Prop) (hS : Sep Ts H0) (hi : ES X G iter Ts (fun v H => ∃ x, φ x ∧ Sep (ValT v (Lst.mk (ls x)) :: Fs x) H)) (ht : Tgt X tg js up) (hsub : Sub G Gs) (h0 : ∀ x, φ x → Ss x 0 (Fs x))
    (hs : ∀ x, φ x → ∀ (T : Th) i y H Ws, (ls x)[i]? = some y → Ss x i Ws → Sep (T :: Ws) H → B X H (up y Gs) body { D with nx := FS T (Ss x (i + 1)) Gs, ct := FS T (Ss x (i + 1)) Gs, bk := fun σ H => tB X rest D σ H })
    (hd : ∀ x, φ x → ∀ H Ws, Ss x (ls x).length Ws → Sep Ws H → B X H Gs rest D) (hp : PassesOwn (model X.prog X.w) X.A X.env X.xe) (hc : X.calm = true := by rfl) (hf : ∀ x, foldedSetIterable iter X.env x = pure x := by intro _; rfl) : B X H0 G (.For tg iter body [] pos :: rest) D :=
  B.seq fun σ H a0 => ps_out (ps_for hp hc (pi_list pe_in) pg_in pss_in hf) (hi σ H _ (a0.self g) (hS.mono a0.same) fun v H1 k1 ⟨x, fx, s1⟩ => by
    obtain ⟨A, xs, rfl, s2⟩ := s1.lstT
    obtain ⟨g1, g2⟩ := s2.at0
    refine ⟨A, rfl, ⟨xs, .inl (.inl g1)⟩, ?_⟩
    obtain ⟨Gd, Y, w, wg, wy⟩ := (lst_walk (K := X.K) (q := A) (A2.len (l := ls x) g2)).ex
    have a1 := a0.ims g k1 (Same.refl H1)
    refine for_it w (fun i σ' H' => FS (LstT A xs (ls x)) (Ss x i) Gs σ' H') ⟨Fs x, h0 x fx, s2, a1.sub hsub⟩ (fun i σ' H' _ ⟨Ws, z1, z2, z3⟩ => wg H' z2.at0) (fun i v σ' H' H2 hil ⟨Ws, z1, z2, z3⟩ y => ?_) fun σ' H' ⟨Ws, z1, z2, z3⟩ => hd x fx H' Ws z1 z2.drop σ' H' (z3.self gs)
    obtain ⟨s3, y', e1, e2⟩ := wy i H' v H2 z2.at0 y hil
    refine ht y' v σ' _ _ H2 _ e2 (z3.ims gs (keepT s3) (Same.refl H2)) fun σ2 q2 _ => ?_
    exact hs x fx _ i y' H2 Ws e1 z1 (z2.mono s3) σ2 H2 q2)
/-! ### a, b = .. -/
theorem bs_par {i j : Nat} [g : ImG G] (P : Par2 X st a b i j) (hS : Sep Ts H0) (ha : EAS X G [a, b] Ts Ra) (hr : ∀ vs H1, Ra vs H1 → ∃ (v w : V) (α β : Type) (_ : Im α) (_ : Im β) (x : α) (y : β), vs = [v, w] ∧ r x v H1 ∧ r y w H1 ∧ B X H1 ((G.set i (.im x)).set j (.im y)) rest D) : B X H0 G (st :: rest) D := B.seq fun σ H h0 => P.go _ σ H (ha σ H _ (h0.self g) (hS.mono h0.same) fun vs H1 k1 r1 => by
  obtain ⟨v, w, α, β, iα, iβ, x, y, e, rx, ry, hb⟩ := hr vs H1 r1
  refine ⟨v, w, e, fun H2 s2 => ?_⟩
  have a1 := h0.ims g k1 (Same.refl H1)
  exact hb _ H2 (((a1.set (s := .im x) rx fun z => z).set (s := .im y) ry fun z => z).ext s2))
/-! ### House.day -/
section
variable {mg : Str → Option Value}
theorem es_day {m : Nat} {pa : Addr} {pl : Sem Bool} [g : ImG G] (T : Tx X.K X.mg) (hr : Room m X.A) (hk : 7 ≤ m) (ho : ∀ H0, Sep Ts H0 → E X H0 G o (Val (Adr.mk pa))) (hx : ∀ H, Sep Ts H → ∃ h : Hou X.K, HouAt X.K h pa H) {A : Type} {f : A → List (Option Int)} {h : A → Hou X.K} {Fs : A → List Th} {φ : A → Prop}
    (ha : ES X G e Ts (fun v H => ∃ x, φ x ∧ Sep (ValT v (f x) :: Fs x) H)) (hf : ∀ x H, φ x → Sep (Fs x) H → ∃ Ws h, Sep (HouT (K := X.K) pa h :: Ws) H ∧ DyOk h (f x) 0 ∧ ∀ v H', Sep (HouT (K := X.K) pa (dayH h (f x) 0) :: Ws) H' → R v H')
    (hst : starEach [e] X.env = (false, eval e X.env) :: starEach [] X.env := by rfl) (hpl : (backTo pos (starEach [] X.env)).any (·.1) = false := by rfl)
    (ht : eval (.Call (.Attribute o "day" apos) [e] [] pos) X.env = (do
      let ov ← eval o X.env
      standAt apos.atName
      let (f, first) ← holding [ov] (getMethod ov "day" pl)
      callWith pos f first (backTo pos (starEach [e] X.env)) (backToKw pos (keywordEach [] X.env))) := by rfl) : ES X G (.Call (.Attribute o "day" apos) [e] [] pos) Ts R := fun σ H Q h0 s q => by
  obtain ⟨fd, F1, F2⟩ := fn_House_day (P := X.prog) (w := X.w) (base := X.base) T
  obtain ⟨ds, hv, hb⟩ := day_binds F2
  refine pe_out (pe_meth (m := "day") pe_in T.c_House T.e_House_day F1 (hr.mono hk) hb hv pass0 (pa_cons pe_in pa_nil hst) hst hpl ht) (ho H s σ H _ h0 fun v H1 s1 p1 => ?_)
  have p1 : v = .ref pa := p1
  subst p1
  have s1' := s.mono s1
  obtain ⟨hh, dx, FA, AA, vd, vc, HF⟩ := hx H1 s1'
  refine ⟨pa, dx, _, rfl, HF.ins, by rfl, ha σ H1 _ (h0.ims g (keepT s1) (Same.refl H1)) s1' fun v2 H2 k2 ⟨x, fx, sx⟩ => ?_⟩
  show spDay X.K [.ref pa, v2, .int 0] H2 Q E0
  obtain ⟨Ws, h', ⟨Hc, t1, t2, t3⟩, a3, a4⟩ := hf x H2 fx sx.drop
  exact ⟨(f x, 0), Hc, h', pa, [v2, .int 0], rfl, ⟨v2, _, rfl, sx.at0, _, _, rfl, rfl, rfl⟩, t1, t2, a3, fun u H' k3 k4 k5 k6 => q u H' (KeepT.trans (KeepT.trans (keepT s1) k2) k4) (a4 u H' ⟨Hc, k3, k5, t3⟩)⟩
end
end
end Lk

/-! LkK7 -/
set_option Elab.async false
set_option linter.all false
set_option maxRecDepth 100000
set_option maxHeartbeats 4000000
set_option autoImplicit false
/-! _law_third -/
namespace Lk
open PySem PySem.Spec PyProof.Rows L2
open Ty (r)
section
variable {P : Program} {w : World} {K : PySem.W.Frag} {mg : Str → Option Value} {base : Heap}
theorem lt_of_eqI {a b c : Int} (h : a < b) (e : b = c) : a < c := by omega
/-- the wishes that are drawn -/
def wList (n : Nat) : List (Option Int) := (rng 0 ((n : Nat) : Int).toNat).map Option.some
theorem wList_len {n : Nat} : (wList n).length = n := by unfold wList; rw [List.length_map, rng_len, Int.toNat_natCast]
theorem wsOk_of {hands : Int} {n : Nat} {as more : List (Option Int)} (n3 : 1 ≤ n ∧ n ≤ 3) (hl : (as.length : Int) = hands) (hm : ∀ o ∈ more, o = none ∨ o = some 0) (h : ∀ a ∈ as, a ∈ wList n ++ more) : WsOk hands n as := by
  refine ⟨hl, n3.2, fun u hu => ?_⟩
  have := h _ hu
  rcases List.mem_append.mp this with h1 | h1
  · obtain ⟨x, hx, e⟩ := List.mem_map.mp h1
    cases e
    have := rng_mem hx
    rw [Int.toNat_natCast] at this
    omega
  · rcases hm _ h1 with e | e
    · cases e
    · cases e; omega
theorem rng_snoc {lo : Int} {i : Nat} : rng lo (i + 1) = rng lo i ++ [lo + (i : Int)] := by
  unfold rng
  rw [List.range_succ, List.map_append]
  rfl
theorem rng_nodup {lo : Int} {n : Nat} : (rng lo n).Nodup := by
  unfold rng
  rw [List.Nodup, List.pairwise_map]
  exact List.Pairwise.imp (fun {a b} h => by intro z; apply h; omega) (List.nodup_range (n := n))
theorem cut_sub {α : Type} {l : List α} {lo hi : Option Int} : (cutL l lo hi).Sublist l := (List.take_sublist _ _).trans (List.drop_sublist _ _)
def spThird (K : PySem.W.Frag) : Sp := fun vs H Q _ => ∃ (q L : Addr) (n hands t p : Int) (l : List (List Int)) (Ws : List Th), vs = [.ref q, .int hands, .int t, .int p, .ref L] ∧ Sep (PotT q n :: ValT (.ref L) (Lst.mk l) :: Ws) H ∧ Cfg hands t p ∧ (1 ≤ l.length ∧ l.length ≤ 3) ∧ (∀ f ∈ l, FileOk hands t p f) ∧ n < 2 ^ 36 ∧ ∀ (p3 : Addr) (h : Hou K) H', KeepT H H' → HX hands t p l h → h.away.length ≤ 1 → Sep (HouT p3 h :: PotT q (n + 1000) :: ValT (.ref L) (Lst.mk l) :: Ws) H' → Q (.ref p3) H'
theorem ok_law_third (T : Tx K mg) : Cal P w K mg base 12 "_law_third" ["_law_pot_here", "_law_count", "_law_t", "_law_p", "_law_some"] (spThird K) := by
  obtain ⟨fd, F⟩ := T.f_law_third
  refine cal_of F T.g_law_third (F.ok sc_law_third (fun vs H Q Ex ⟨_, _, _, _, _, _, _, _, e, _⟩ => by rw [e]; rfl) fun cdv A outer s H vs Q Ex hr ⟨q, L, n, hands, t, p, l, Ws, e, hS, c, l3, lf, hn, hq⟩ => ?_) (fun _ _ _ _ _ _ us hl => match us, hl with | [_, _, _, _, _], _ => rfl)
  subst e
  refine ⟨_, PSs.nox pss_in, ?_⟩
  suffices hB : B (cxOf CX0 P w K mg base N_law_third "_law_third" (defScope s_law_third) (He.fAd K ("_law_third", none)) cdv A outer s H Ex).nox H [.im (Adr.mk q), .im hands, .im t, .im p, .im (Adr.mk L), .no, .no, .no, .no, .no] (defBody s_law_third) { nx := fun _ H' => Q .non H', rt := Q } from
    hB _ H (ent_at (R := .cons (Adr.mk q) (.cons hands (.cons t (.cons p (.cons (Adr.mk L) .nil))))) (gs := [.im (Adr.mk q), .im hands, .im t, .im p, .im (Adr.mk L)]) (n := 5) (ent_im (ent_im (ent_im (ent_im (ent_im ent_nil))))) (by rfl) ⟨_, _, rfl, rfl, _, _, rfl, rfl, _, _, rfl, rfl, _, _, rfl, rfl, _, _, rfl, rfl, rfl⟩)
  have hh := c.hh
  have t0 := c.t0
  have t1 := c.t1
  have p1 := c.p1
  obtain ⟨TT, eTT⟩ : ∃ TT, TupT H = TT := ⟨_, rfl⟩
  have hS0 : Sep (TT :: PotT q n :: ValT (.ref L) (Lst.mk l) :: Ws) H := by rw [← eTT]; exact hS.tups
  refine bs_par (par_l 5 6 rfl sc_law_third.nd) hS0 (eas_cons (A := Addr) (φ := fun p3 v => v = .ref p3) (Fs := fun p3 => HouT p3 (hou0 K hands t p) :: TT :: PotT q n :: ValT (.ref L) (Lst.mk l) :: Ws) (ES.weak (es_new fun H0 s => e_house T rfl rfl hr (by decide) (by omega) (by omega) (by omega) c.pr (e_var 1) (e_var 2) (e_var 3)) (fun v H1 ⟨Hc, h1, ⟨p3, e3, hat⟩, h3⟩ => ⟨p3, e3, Hc, h1, hat, h3⟩)) (fun p3 v hv => eas_one (es_new fun H0 s => e_lst0 (α := Int)))) (fun vs H1 ⟨p3, v, ws, e1, e2, w1, e3, s1⟩ => ?_)
  obtain ⟨LG, xs, e4, s1'⟩ := s1.lstT
  subst e4 e2
  refine ⟨.ref p3, .ref LG, Adr, Adr, inferInstance, inferInstance, ⟨p3⟩, ⟨LG⟩, by rw [e1, e3], rfl, rfl, ?_⟩
  show B _ H1 [.im (Adr.mk q), .im hands, .im t, .im p, .im (Adr.mk L), .im (Adr.mk p3), .im (Adr.mk LG), .no, .no, .no] _ _
  refine bs_for (Gs := fun _ => [.im (Adr.mk q), .im hands, .im t, .im p, .im (Adr.mk L), .im (Adr.mk p3), .im (Adr.mk LG), .no, .no, .no]) (gs := fun _ => inferInstance) (T0 := ValT (.ref L) (Lst.mk l)) (Us := ValT (.ref LG) (Lst.mk ([] : List Int)) :: HouT p3 (hou0 K hands t p) :: TT :: PotT q n :: Ws) (Ss := fun i Us => ∃ h : Hou K, HNew hands t p (l.take i) h ∧ h.away = [] ∧ Us = ValT (.ref LG) (Lst.mk ([] : List Int)) :: HouT p3 h :: TT :: PotT q n :: Ws) s1 (eis_enum T.m_enumerate (fun H0 s => e_var 4) (fun H s => s.front 4)) (tgt_2 7 8 rfl sc_law_third.nd) (Sub.refl _) ⟨_, hNew0, rfl, rfl⟩ (fun T1 i x H2 Us hx ⟨h, hN, ha, eU⟩ s2 => ?_) (fun H2 Us ⟨h, hN, ha, eU⟩ s2 => ?_) nox_own
  · subst eU
    obtain ⟨j, f⟩ := x
    obtain ⟨j2, _, hf⟩ := enm_idx (List.mem_of_getElem? hx)
    have hi : i < l.length := by have := (List.getElem?_eq_some_iff.mp hx).1; rwa [enm_len] at this
    have hxf : l[i]? = some f := by
      have := enm_get (l := l) (i := i) (x := l[i]) (by simp [hi])
      rw [hx] at this
      cases this
      simp [hi]
    have hfo := lf f (List.mem_of_getElem? hxf)
    show B _ H2 [.im (Adr.mk q), .im hands, .im t, .im p, .im (Adr.mk L), .im (Adr.mk p3), .im (Adr.mk LG), .im j, .im f, .no] _ _
    refine bs_drop (R := fun _ H => Sep (T1 :: ValT (.ref LG) (Lst.mk ([] : List Int)) :: HouT p3 (brg h f) :: TT :: PotT q n :: Ws) H) s2 (es_meth (ok_House_bring T) hr (fun _ _ _ _ _ _ _ _ _ => by rfl) (fun H0 s => e_var 5) (fun H s => ⟨h, Sep.get (T := HouT p3 h) 2 s⟩) (eas_pure (Rs := .cons f .nil) fun H0 s => ea_cons (e_var 8) ea_nil) (fun vs H ⟨a1, s3⟩ => ⟨f, h, _, a1, s3.front 2, brOk_of c hN.hh hN.ht hN.hp hN.bd (by rw [hN.fs, enm_len, List.length_take]; omega) hfo, fun v H' s4 rv => s4.back 2⟩)) (fun v H3 s3 => ?_)
    refine bs_fin s3 ⟨brg h f, ?_, ha, rfl⟩ (Sub.of [7, 8])
    have e : l.take (i + 1) = l.take i ++ [f] := by rw [List.take_succ, hxf]; rfl
    rw [e]
    exact hN.bring f
  subst eU
  rw [List.take_of_length_le (by rw [enm_len]; exact Nat.le_refl _)] at hN
  have hX : HX hands t p l h := HNew.hx (l2 := []) (by rw [List.append_nil]; exact hN) (by rw [List.append_nil]; omega) (by rw [List.append_nil]; exact lf)
  show B _ H2 [.im (Adr.mk q), .im hands, .im t, .im p, .im (Adr.mk L), .im (Adr.mk p3), .im (Adr.mk LG), .no, .no, .no] _ _
  have ll : ((l.length : Nat) : Int) < 1000000 := by omega
  refine bs_drop (R := fun _ H => ∃ wi, WsOk hands l.length wi ∧ Sep (HouT p3 (dayH h wi 0) :: PotT q (n + 4) :: ValT (.ref L) (Lst.mk l) :: ValT (.ref LG) (Lst.mk ([] : List Int)) :: TT :: Ws) H) s2 (es_day (A := List (Option Int)) (f := fun wi => wi) (φ := fun wi => WsOk hands l.length wi) (Fs := fun _ => AnyT :: PotT q (n + ((rng 0 hands.toNat).length : Nat)) :: ValT (.ref L) (Lst.mk l) :: ValT (.ref LG) (Lst.mk ([] : List Int)) :: HouT p3 h :: TT :: Ws) (h := fun _ => h) T hr (by decide) (fun H0 s => e_var 5) (fun H s => ⟨h, Sep.get (T := HouT p3 h) 2 s⟩)
    (es_tupL (f := fun wi => wi) T.m_tuple (ES.weak (ES.pre (es_lc (α := Option Int) (l := rng 0 hands.toNat) (fun _ o => o ∈ wList l.length ++ [none]) (fun i => PotT q (n + (i : Int)) :: ValT (.ref L) (Lst.mk l) :: ValT (.ref LG) (Lst.mk ([] : List Int)) :: HouT p3 h :: TT :: Ws) [("_law_one", 9)] sc_law_third.nd (eis_rng1 T.m_range (fun H0 s => e_var 1) (by omega)) (by rw [rng_len]; omega) (fun s H C cl fp => tgt_name 9 sc_law_third.nd) (fun s0 H0 C cl fp T1 U i x hx => ?_)) (fun H s => potE (n := n) (by simp) (s.front 4))) (fun v H ⟨as, k1, k2, k3⟩ => ⟨as, ?_, k3⟩))) (fun wi H fw sw => ?_)) (fun v H3 ⟨wi, hw, s3⟩ => ?_)
  · have hi : (i : Int) < 4 := by
      have := (List.getElem?_eq_some_iff.mp hx).1
      rw [rng_len] at this
      omega
    refine ES.weak (es_of (l := wList l.length ++ [none]) (n := n + (i : Int)) (ok_law_of T) hr (by rw [List.length_append, wList_len]; show 0 < l.length + 1 ∧ l.length + 1 < 1000000; omega) (by omega) (fun H0 s => e_var 0) (fun v H0 s => e_catL (l := wList l.length) (m := [none]) ?_ (E.optL (E.val (e_listRg rfl T.m_list T.m_range (e_lenL (l := l) T.m_len (E.ofOld (E.there (e_var 4) (Sep.get (T := ValT (.ref L) (Lst.mk l)) 2 s)))) ?_))) (E.val (e_lst1 e_non))) (fun H s => s)) (fun v H ⟨x, k1, k2⟩ => ⟨x, k1, Sep.swap (potE (by rw [Int.natCast_succ]; omega) k2.swap)⟩)
    · rw [wList_len]; show l.length + 1 < 1000000; omega
    · omega
  · refine wsOk_of l3 (by rw [k1, rng_len]; omega) (more := [none]) (fun o ho => .inl (by simpa using ho)) fun a ha => ?_
    obtain ⟨j, hj⟩ := List.getElem?_of_mem ha
    exact k2 j a hj
  · refine ⟨_, h, (sw.drop).front 3, dyOk_of c hX.g fw hX.bd ⟨by omega, by omega⟩ (.inl rfl), fun v H' s4 => ⟨wi, fw, ?_⟩⟩
    have s5 := Sep.front (T := PotT q (n + ((rng 0 hands.toNat).length : Nat))) 1 s4
    exact Sep.front (T := HouT p3 (dayH h wi 0)) 1 (potUp (m := n + 4) (by rw [rng_len]; omega) s5)
  have hD0 := hX.g.day c hw 0
  have oD := dayOk_new c hX.g hw 0
  show B _ H3 [.im (Adr.mk q), .im hands, .im t, .im p, .im (Adr.mk L), .im (Adr.mk p3), .im (Adr.mk LG), .no, .no, .no] _ _
  have afterIf : ∀ (a : List (Int × Bool)) (H4 : Hp), a.length ≤ 1 → Sep (HouT p3 ({ dayH h wi 0 with away := a } : Hou K) :: PotT q (n + 6) :: ValT (.ref L) (Lst.mk l) :: ValT (.ref LG) (Lst.mk ([] : List Int)) :: TT :: Ws) H4 → B (cxOf CX0 P w K mg base N_law_third "_law_third" (defScope s_law_third) (He.fAd K ("_law_third", none)) cdv A outer s H Ex).nox H4 [.im (Adr.mk q), .im hands, .im t, .im p, .im (Adr.mk L), .im (Adr.mk p3), .im (Adr.mk LG), .no, .no, .no] ((defBody s_law_third).drop 4) { nx := fun _ H' => Q .non H', rt := Q } := fun a H4 ha4 s4 => by
    refine bs_drop (R := fun _ H => Sep (HouT p3 ({ dayH h wi 0 with away := a, byDay := false } : Hou K) :: PotT q (n + 6) :: ValT (.ref L) (Lst.mk l) :: ValT (.ref LG) (Lst.mk ([] : List Int)) :: TT :: Ws) H) s4 (es_meth0 (ok_House_night T) hr (fun _ _ _ _ _ _ _ _ _ => by rfl) (fun H0 s => e_var 5) (fun H s => ⟨(), ({ dayH h wi 0 with away := a } : Hou K), _, rfl, s, nightOk_of c hD0.aw oD (by decide), fun v H' s5 rv => s5⟩)) (fun v H5 s5 => ?_)
    have hN2 : HNew hands t p l ({ dayH h wi 0 with away := a, byDay := false } : Hou K) := ⟨hN.hh, hN.ht, hN.hp, hN.fs, hN.nx, rfl⟩
    have s6 : Sep (PotT q (n + 6) :: HouT p3 ({ dayH h wi 0 with away := a, byDay := false } : Hou K) :: ValT (.ref L) (Lst.mk l) :: ValT (.ref LG) (Lst.mk ([] : List Int)) :: TT :: Ws) H5 := s5.swap
    have g := c.grid
    have c0 := g.c0
    have hll : ((lawLots hands t).length : Int) = chooseI hands t := by rw [g.lw]; omega
    refine bs_forX (A := List (List Int)) (φ := fun fs => fs.length ≤ 3 ∧ 1 ≤ fs.length ∧ ∀ f ∈ fs, FileOk hands t p f) (ls := fun fs => fs) (Fs := fun _ => PotT q (n + 1000) :: HouT p3 ({ dayH h wi 0 with away := a, byDay := false } : Hou K) :: ValT (.ref L) (Lst.mk l) :: ValT (.ref LG) (Lst.mk ([] : List Int)) :: TT :: Ws) [.im (Adr.mk q), .im hands, .im t, .im p, .im (Adr.mk L), .im (Adr.mk p3), .im (Adr.mk LG), .no, .no, .no] (fun fs i Us => ∃ h' : Hou K, HNew hands t p (l ++ fs.take i) h' ∧ h'.away.length ≤ 1 ∧ Us = PotT q (n + 1000) :: HouT p3 h' :: ValT (.ref L) (Lst.mk l) :: ValT (.ref LG) (Lst.mk (rng l.length i)) :: TT :: Ws) s6
      (es_call (ok_law_files T) hr (eas_consV (fun H0 s => e_var 0) fun v0 => eas_consV (fun H0 s => e_var 1) fun v1 => eas_consV (fun H0 s => e_var 2) fun v2 => eas_consV (fun H0 s => e_var 3) fun v3 => eas_one (es_addI (A := Int) (f := fun x => x) (y := 1) (fun H0 s => e_int) (es_take (size := 3) (n := n + 6) (ok_law_take T) hr (by decide) (by omega) (fun H0 s => e_var 0) (fun H0 s => e_int) (fun H s => s.front 4)))) (fun vs H Q r k => ?_)) (tgt_name 8 sc_law_third.nd) (Sub.refl _) (fun fs hf => ⟨_, by rw [List.take_zero, List.append_nil]; exact hN2, ha4, rfl⟩) (fun fs hfs T1 i f H6 Us hx ⟨h', hN', ha', eU⟩ s7 => ?_) (fun fs hfs H6 Us ⟨h', hN', ha', eU⟩ s7 => ?_) nox_own
    · obtain ⟨v0, w0, rfl, v1, w1, rfl, v2, w2, rfl, v3, w3, rfl, v4, rfl, x, fx, s8⟩ := r
      have e4 : v4 = .int (1 + x) := s8.at0
      have e3 : v3 = .int p := Sep.get (T := ValT v3 p) 2 s8
      have e2 : v2 = .int t := Sep.get (T := ValT v2 t) 3 s8
      have e1 : v1 = .int hands := Sep.get (T := ValT v1 hands) 4 s8
      have e0 : v0 = .ref q := Sep.get (T := ValT v0 (Adr.mk q)) 5 s8
      subst e0 e1 e2 e3 e4
      have s9 := ((((s8.drop).del 1).del 1).del 1).del 1
      have hx3 : 0 ≤ x ∧ x < 3 := fx
      refine ⟨q, n + 6 + 1, hands, t, p, 1 + x, _, rfl, s9, g.ll, by omega, by omega, by omega, by omega, fun fs v H' k1 k2 k3 s10 => k v H' k1 ⟨fs, ⟨by omega, by omega, fun f hf => ⟨by rw [(k3 f hf).1]; exact hll, (k3 f hf).2⟩⟩, ?_⟩⟩
      have : (1 + x) * ((lawLots hands t).length : Int) ≤ 3 * 100 := Int.mul_le_mul (by omega) (by omega) (by omega) (by omega)
      exact Sep.swap (potUp (by omega) s10.swap)
    · subst eU
      have hi : i < fs.length := (List.getElem?_eq_some_iff.mp hx).1
      have hfo := hfs.2.2 f (List.mem_of_getElem? hx)
      show B _ H6 [.im (Adr.mk q), .im hands, .im t, .im p, .im (Adr.mk L), .im (Adr.mk p3), .im (Adr.mk LG), .no, .im f, .no] _ _
      have hlen : (l ++ fs.take i).length = l.length + i := by rw [List.length_append, List.length_take]; omega
      refine bs_app (A := Unit) (φ := fun _ => True) (f := fun _ => h'.next) (l := rng l.length i) (L := LG) (Fs := fun _ => T1 :: PotT q (n + 1000) :: HouT p3 (brg h' f) :: ValT (.ref L) (Lst.mk l) :: TT :: Ws) s7 (fun H0 s => e_var 6) (fun H s => Sep.get (T := ValT (.ref LG) (Lst.mk (rng l.length i))) 4 s) (by rw [rng_len]; omega) (es_meth (ok_House_bring T) hr (fun _ _ _ _ _ _ _ _ _ => by rfl) (fun H0 s => e_var 5) (fun H s => ⟨h', Sep.get (T := HouT p3 h') 2 s⟩) (eas_pure (Rs := .cons f .nil) fun H0 s => ea_cons (e_var 8) ea_nil) (fun vs H ⟨a1, s8⟩ => ⟨f, h', _, a1, s8.front 2, brOk_of c hN'.hh hN'.ht hN'.hp hN'.bd (by rw [hN'.fs, enm_len, hlen]; omega) hfo, fun v H' s9 rv => ⟨(), trivial, Sep.im ?_ rv⟩⟩)) (fun _ H7 _ s8 => ?_)
      · have s10 := Sep.back (Ts := T1 :: PotT q (n + 1000) :: HouT p3 (brg h' f) :: ValT (.ref L) (Lst.mk l) :: ValT (.ref LG) (Lst.mk (rng l.length i)) :: TT :: Ws) 2 s9
        exact s10.front 4
      · have enx : h'.next = (l.length : Int) + (i : Int) := by rw [hN'.nx, hlen]; omega
        have s8' : Sep (ValT (.ref LG) (Lst.mk (rng l.length (i + 1))) :: T1 :: PotT q (n + 1000) :: HouT p3 (brg h' f) :: ValT (.ref L) (Lst.mk l) :: TT :: Ws) H7 := by rw [rng_snoc, ← enx]; exact s8
        refine bs_fin (Sep.back (Ts := T1 :: PotT q (n + 1000) :: HouT p3 (brg h' f) :: ValT (.ref L) (Lst.mk l) :: ValT (.ref LG) (Lst.mk (rng l.length (i + 1))) :: TT :: Ws) 4 s8') ⟨brg h' f, ?_, ha', rfl⟩ (Sub.of [8])
        have e : fs.take (i + 1) = fs.take i ++ [f] := by rw [List.take_succ, hx]; rfl
        rw [e, ← List.append_assoc]
        exact hN'.bring f
    subst eU
    rw [List.take_of_length_le (Nat.le_refl _)] at hN'
    have hlen2 : (l ++ fs).length = l.length + fs.length := by rw [List.length_append]
    have hX2 : HX hands t p l h' := hN'.hx (by omega) (fun f hf => by
      rcases List.mem_append.mp hf with hf | hf
      · exact lf f hf
      · exact hfs.2.2 f hf)
    have enx : h'.next = (l.length : Int) + (fs.length : Int) := by rw [hN'.nx, hlen2]; omega
    obtain ⟨ds, eds⟩ : ∃ ds, cutL (rng l.length fs.length) (some 1) none = ds := ⟨_, rfl⟩
    have ds1 : ds.Sublist (rng l.length fs.length) := by rw [← eds]; exact cut_sub
    have ds2 : ds.Nodup := rng_nodup.sublist ds1
    have ds3 : ∀ m ∈ ds, (l.length : Int) ≤ m ∧ m < (l.length : Int) + fs.length := fun m hm => rng_mem (ds1.subset hm)
    refine bs_for (l := ds) (Gs := fun _ => [.im (Adr.mk q), .im hands, .im t, .im p, .im (Adr.mk L), .im (Adr.mk p3), .im (Adr.mk LG), .no, .no, .no]) (gs := fun _ => inferInstance) (T0 := AnyT) (Us := PotT q (n + 1000) :: HouT p3 h' :: ValT (.ref L) (Lst.mk l) :: ValT (.ref LG) (Lst.mk (rng l.length fs.length)) :: TT :: Ws) (Ss := fun i Us => ∃ h2 : Hou K, HX hands t p l h2 ∧ h2.away.length ≤ 1 ∧ h2.next = h'.next ∧ (∀ m ∈ ds.drop i, (dget h2.files m).isSome = true) ∧ Us = PotT q (n + 1000) :: HouT p3 h2 :: ValT (.ref L) (Lst.mk l) :: ValT (.ref LG) (Lst.mk (rng l.length fs.length)) :: TT :: Ws) s7 (eis_new (by rw [← eds]; exact es_new fun H0 s => e_sliceL (l := rng l.length fs.length) (E.ofOld (E.there (e_var 6) (Sep.get (T := ValT (.ref LG) (Lst.mk (rng l.length fs.length))) 3 s))) (eo_some e_int) eo_none)) (tgt_name 7 sc_law_third.nd) (Sub.refl _) ⟨h', hX2, ha', rfl, fun m hm => ?_, rfl⟩ (fun T1 i x H7 Us hx ⟨h2, k1, k2, k3, k4, eU⟩ s8 => ?_) (fun H7 Us ⟨h2, k1, k2, k3, k4, eU⟩ s8 => ?_) nox_own
    · obtain ⟨m0, m1⟩ := ds3 m (List.mem_of_mem_drop hm)
      rw [hN'.fs]
      obtain ⟨j, rfl⟩ := Int.eq_ofNat_of_zero_le (show 0 ≤ m by omega)
      have hj : j < (l ++ fs).length := by omega
      have := dget_enm (l := l ++ fs) (m := j) (x := (l ++ fs)[j]) (by simp [hj])
      rw [this]
      rfl
    · subst eU
      obtain ⟨m0, m1⟩ := ds3 x (List.mem_of_getElem? hx)
      have hi := (List.getElem?_eq_some_iff.mp hx).1
      have edrop : ds.drop i = x :: ds.drop (i + 1) := by
        rw [List.drop_eq_getElem_cons hi]
        have := (List.getElem?_eq_some_iff.mp hx).2
        rw [this]
      have hxs := k4 x (by rw [edrop]; simp)
      have nd : (ds.drop i).Nodup := ds2.sublist (List.drop_sublist _ _)
      rw [edrop, List.nodup_cons] at nd
      show B _ H7 [.im (Adr.mk q), .im hands, .im t, .im p, .im (Adr.mk L), .im (Adr.mk p3), .im (Adr.mk LG), .im x, .no, .no] _ _
      refine bs_drop (R := fun _ H => Sep (T1 :: PotT q (n + 1000) :: HouT p3 ({ h2 with files := ddrop h2.files x } : Hou K) :: ValT (.ref L) (Lst.mk l) :: ValT (.ref LG) (Lst.mk (rng l.length fs.length)) :: TT :: Ws) H) s8 (es_meth (ok_House_drop T) hr (fun _ _ _ _ _ _ _ _ _ => by rfl) (fun H0 s => e_var 5) (fun H s => ⟨h2, Sep.get (T := HouT p3 h2) 2 s⟩) (eas_pure (Rs := .cons x .nil) fun H0 s => ea_cons (e_var 7) ea_nil) (fun vs H ⟨a1, s9⟩ => ⟨x, h2, _, a1, s9.front 2, ⟨k1.bd, ⟨by omega, by omega⟩, hxs⟩, fun v H' s10 rv => s10.back 2⟩)) (fun v H8 s9 => ?_)
      refine bs_fin s9 ⟨({ h2 with files := ddrop h2.files x } : Hou K), k1.drop m0, k2, k3, fun m hm => ?_, rfl⟩ (Sub.of [7])
      show (dget (ddrop h2.files x) m).isSome = true
      rw [dget_ddrop, if_neg (fun z => nd.1 (by rw [z]; exact hm))]
      exact k4 m (by rw [edrop]; exact List.mem_cons_of_mem _ hm)
    subst eU
    refine bs_for (l := rng 0 hands.toNat) (Gs := fun _ => [.im (Adr.mk q), .im hands, .im t, .im p, .im (Adr.mk L), .im (Adr.mk p3), .im (Adr.mk LG), .no, .no, .no]) (gs := fun _ => inferInstance) (T0 := AnyT) (Us := AnyT :: PotT q (n + 1000) :: HouT p3 h2 :: ValT (.ref L) (Lst.mk l) :: ValT (.ref LG) (Lst.mk (rng l.length fs.length)) :: TT :: Ws) (Ss := fun i Us => ∃ h3 : Hou K, HX hands t p l h3 ∧ h3.away.length ≤ 1 ∧ Us = AnyT :: PotT q (n + 1000) :: HouT p3 h3 :: ValT (.ref L) (Lst.mk l) :: ValT (.ref LG) (Lst.mk (rng l.length fs.length)) :: TT :: Ws) s8 (eis_rng1 T.m_range (fun H0 s => e_var 1) (by omega)) (tgt_name 9 sc_law_third.nd) (Sub.refl _) ⟨h2, k1, k2, rfl⟩ (fun T1 i x H8 Us hx ⟨h3, j1, j2, eU⟩ s9 => ?_) (fun H8 Us ⟨h3, j1, j2, eU⟩ s9 => ?_) nox_own
    · subst eU
      obtain ⟨m0, m1⟩ := rng_mem (List.mem_of_getElem? hx)
      show B _ H8 [.im (Adr.mk q), .im hands, .im t, .im p, .im (Adr.mk L), .im (Adr.mk p3), .im (Adr.mk LG), .no, .no, .im x] _ _
      refine bs_drop (R := fun _ H => Sep (T1 :: AnyT :: PotT q (n + 1000) :: HouT p3 (homeH h3 x) :: ValT (.ref L) (Lst.mk l) :: ValT (.ref LG) (Lst.mk (rng l.length fs.length)) :: TT :: Ws) H) s9 (es_meth (ok_House_home T) hr (fun _ _ _ _ _ _ _ _ _ => by rfl) (fun H0 s => e_var 5) (fun H s => ⟨h3, Sep.get (T := HouT p3 h3) 3 s⟩) (eas_pure (Rs := .cons x .nil) fun H0 s => ea_cons (e_var 9) ea_nil) (fun vs H ⟨a1, s10⟩ => ⟨x, h3, _, a1, s10.front 3, ⟨m0, by rw [j1.g.hh]; omega⟩, fun v H' s11 rv => s11.back 3⟩)) (fun v H9 s10 => ?_)
      exact bs_fin s10 ⟨homeH h3 x, j1.aw, Nat.le_trans homeH_len j2, rfl⟩ (Sub.of [9])
    subst eU
    refine bs_ret (Ts := AnyT :: AnyT :: PotT q (n + 1000) :: HouT p3 h3 :: ValT (.ref L) (Lst.mk l) :: ValT (.ref LG) (Lst.mk (rng l.length fs.length)) :: TT :: Ws) s9 (es_val fun H0 s => e_var 5) (fun v H9 s10 => ?_)
    have ev : v = .ref p3 := s10.at0
    subst ev
    have s11 := ((s10.drop).drop).drop
    have kt : KeepT H H9 := by
      have := Sep.get (T := TT) 4 s11
      rw [← eTT] at this
      exact this
    exact hq p3 h3 H9 kt j1 j2 (((s11.del 3).del 3).swap)
  refine bs_if (Rb := fun k H => Sep (PotT q (n + 5) :: HouT p3 (dayH h wi 0) :: ValT (.ref L) (Lst.mk l) :: ValT (.ref LG) (Lst.mk ([] : List Int)) :: TT :: Ws) H) s3 (est_w (ewt_and (A := Unit) (Fs := fun _ => HouT p3 (dayH h wi 0) :: PotT q (n + 4) :: ValT (.ref L) (Lst.mk l) :: ValT (.ref LG) (Lst.mk ([] : List Int)) :: TT :: Ws) (ESt.weak (est_pure (k := decide (1 < (l.length : Int))) fun H0 s => et_gt (e_lenL (l := l) T.m_len (E.ofOld (E.there (e_var 4) (Sep.get (T := ValT (.ref L) (Lst.mk l)) 2 s)))) e_int) (fun k H ⟨_, s4⟩ => ?_)) fun _ => ewt_and1 (ESt.weak (est_eqI (A := Int) (f := fun x => x) (y := 0) (es_take (size := 2) (n := n + 4) (ok_law_take T) hr (by decide) (by omega) (fun H0 s => e_var 0) (fun H0 s => e_int) (fun H s => s.swap)) (fun x H0 s => e_int)) (fun k H ⟨x, fx, _, s4⟩ => potE (by omega) s4)))) (fun H4 s4 => ?_) (fun H4 s4 => ?_)
  · by_cases hk : k = true
    · rw [if_pos hk]; exact ⟨(), s4⟩
    · rw [if_neg hk]; exact potUp (by omega) s4.swap
  · refine bs_drop (R := fun _ H => ∃ a : List (Int × Bool), a.length ≤ 1 ∧ Sep (HouT p3 ({ dayH h wi 0 with away := a } : Hou K) :: PotT q (n + 6) :: ValT (.ref L) (Lst.mk l) :: ValT (.ref LG) (Lst.mk ([] : List Int)) :: TT :: Ws) H) s4 (es_meth (ok_House_away T) hr (fun _ _ _ _ _ _ _ _ _ => by rfl) (fun H0 s => e_var 5) (fun H s => ⟨dayH h wi 0, Sep.get (T := HouT p3 (dayH h wi 0)) 1 s⟩) (eas_one (es_take (size := hands) (n := n + 5) (ok_law_take T) hr (by omega) (by omega) (fun H0 s => e_var 0) (fun H0 s => e_var 1) (fun H s => s))) (fun vs H ⟨v, ev, x, fx, s5⟩ => ⟨x, dayH h wi 0, _, ⟨v, [], ev, s5.at0, rfl⟩, (s5.drop).front 1, ⟨⟨fx.1, lt_of_eqI fx.2 hD0.g.hh.symm⟩, by show h.away.length < 1000; rw [ha]; decide⟩, fun v H' s6 rv => ⟨(awayH (dayH h wi 0) x).away, ?_, ?_⟩⟩)) (fun v H5 ⟨a, ha5, s5⟩ => b_go (afterIf a H5 ha5 s5))
    · have := awayH_len (h := dayH h wi 0) (hand := x)
      have e : (dayH h wi 0).away = [] := ha
      rw [e] at this
      exact this
    · have s7 := Sep.swap (potUp (m := n + 6) (by omega) s6.swap)
      exact s7
  · exact b_go (afterIf [] H4 (by decide) (by
      have e : ({ dayH h wi 0 with away := [] } : Hou K) = dayH h wi 0 := by
        have : (dayH h wi 0).away = [] := ha
        rw [← this]
      rw [e]
      exact Sep.swap (potUp (by omega) s4)))
end
end Lk

/-! LkK8 -/
set_option Elab.async false
set_option linter.all false
set_option maxRecDepth 100000
set_option maxHeartbeats 4000000
set_option autoImplicit false
/-! Defs that are called where no text of a list is being written. -/
namespace Lk
open PySem PySem.Spec PyProof.Rows L2
open Ty (r)
structure FnG (P : Program) (w : World) (K : PySem.W.Frag) (mg : Str → Option Value) (base : Heap) (k : Nat) (f : Addr) (fd : FuncData) (ps : List Str) (sp : Sp) : Prop where
  len : ∀ vs H Q Ex, sp vs H Q Ex → vs.length = ps.length
  go : ∀ (A : Around) (out : List Env) (s : Shared) (H : Hp) (ar : Args) (us : List Value) (vs : List V) (Q : VK) (Ex : XK), A.guards = some [] → Room k A → Env0 P w K mg base A out s H → BindsTo s fd ar (ps.zip us) → Vals vs us → sp vs H Q Ex →
    codeAny (model P w) A (.call (.ref f) ar) (CR CX0 out P w H s Q Ex) s
section
variable {P : Program} {w : World} {K : PySem.W.Frag} {mg : Str → Option Value} {base : Heap} {x qual : Str} {params : Arguments} {body : List Stmt} {scope : Scope} {f : Addr} {fd : FuncData} {N ps : List Str} {sp : Sp}
theorem fnG_of {k : Nat} (F : FunD K x qual params body scope [] [] f fd) (S : FnScope N ps scope) (hlen : ∀ vs H Q Ex, sp vs H Q Ex → vs.length = ps.length)
    (hgo : ∀ (cdv : Value) (A : Around) (out : List Env) (s : Shared) (H : Hp) (vs : List V) (Q : VK) (Ex : XK), A.guards = some [] → Room k (A.deeper (envOfC qual scope s.heap.objs.size f cdv)) → sp vs H Q Ex →
      tB (cxOf CX0 P w K mg base N qual scope f cdv A out s H Ex) body { nx := fun _ H' => Q .non H', rt := Q } (L2.start N vs) H) : FnG P w K mg base (k + 1) f fd ps sp := by
  obtain ⟨o1, o2, o3, o4, o5, o6, o7, cdv, o8, o9, rfl, at_f, code_f, _, _⟩ := F.ex
  refine ⟨hlen, fun A out s H ar us vs Q Ex gs room env binds rv want => ?_⟩
  have inH : K.In s.heap := env.mod.kin.keeps fun b o e => (env.bs b o e).1
  have nolim : s.heap.NoLimit := env.mod.nolimit.keeps fun b o e => (env.bs b o e).1
  refine codeAny_call_function room.depth (inH _ _ at_f) rfl S.co S.gen rfl (PySem.W.codeRec_of inH code_f) (binds _ _ _ _ ?_)
  refine wpAny_newFunctionEnv_cells S.kind (fun y hy => ?_) fun en hen st inC => ?_
  · obtain ⟨yn, yv⟩ := y
    rcases S.par yn (List.of_mem_zip hy).1 with loc | cell
    · exact .inl loc
    · exact .inr ⟨cell, PySem.W.cellsFrom_some _ _ _ (.inl cell)⟩
  subst hen
  refine ⟨nolim.keeps inC.toInCall.keep, codeAny_func ?_⟩
  have I0 : Inv (cxOf CX0 P w K mg base N qual scope f cdv A out s H Ex) [] (L2.start N vs) H st := inv_start S room.hd env (hlen _ _ _ _ want) rv inC
  refine wpAny_mono (hgo cdv A out s H vs Q Ex gs (room.deeper _) want [] st I0) (fun fl st2 got => ?_) fun _ _ bad => bad
  cases fl with
  | brk => obtain ⟨_, _, _, bad⟩ := got; exact bad.elim
  | cont => obtain ⟨_, _, _, bad⟩ := got; exact bad.elim
  | next =>
    obtain ⟨σ2, H2, I2, q2⟩ := got
    exact ⟨V.non, H2, I2.os, I2.bare, I2.base, I2.hok, rfl, q2⟩
  | ret u =>
    obtain ⟨v, σ2, H2, I2, rv2, q2⟩ := got
    exact ⟨v, H2, I2.os, I2.bare, I2.base, I2.hok, rv2, q2⟩
end
structure CalG (P : Program) (w : World) (K : PySem.W.Frag) (mg : Str → Option Value) (base : Heap) (k : Nat) (x : Str) (ps : List Str) (sp : Sp) : Prop where
  ex : ∃ f fd, FnG P w K mg base k f fd ps sp ∧ mg x = some (.ref f) ∧ PySem.W.keepIn K (.ref f) = true ∧ Binds K fd ps []
section
variable {X : Cx} {k : Nat} {f : Addr} {fd : FuncData} {ps : List Str} {sp : Sp} {x : Str} {p pos : Pos} {e : Expr} {es : List Expr} {t : TA} {Ex : XK}
/-- f(e, ..), no text of a list being written -/
theorem pe_callG (F : FnG X.prog X.w X.K X.mg X.base k f fd ps sp) (hgu : X.A.guards = some []) (hr : Room k X.A) (hg : Gl X x) (hm : X.mg x = some (.ref f)) (hk : PySem.W.keepIn X.K (.ref f) = true) (hb : Binds X.K fd ps [])
    (ha : PA X (e :: es) t) (hdb : (x == ("__debug__" : Str)) = false := by decide) (he : starEach (e :: es) X.env = (false, eval e X.env) :: starEach es X.env := by rfl) (hpl : (backTo pos (starEach es X.env)).any (·.1) = false := by rfl) :
    PE X (.Call (.Name x p) (e :: es) [] pos) (fun σ H Q => t σ H fun vs H1 => sp vs H1 Q Ex) := by
  refine ⟨fun pins s σ H Q I h => wpAny_Call_Name_kw (ld_glob I hg hm ?_ hdb)⟩
  refine PySem.W.callWith_K (h₀ := X.base) I.ok.mod.kin hk (thn (ha.run pos pins s σ H _ I h) fun us s1 ⟨vs, H1, I1, rv, q1⟩ => ⟨I1.kIn, ?_⟩) he hpl
  have lv : (us ++ []).length = ps.length := by rw [List.append_nil, ← rv.length]; exact F.len _ _ _ _ q1
  have hb1 := hb s1 us I1.kIn lv
  rw [List.append_nil] at hb1
  refine wpAny_call (codeAny_mono (F.go X.A X.stack s1 H1 ⟨us, []⟩ us vs Q Ex hgu hr I1.env0 hb1 rv q1) fun res s2 got => ?_)
  cases res with
  | error bad => exact (show False from got).elim
  | ok fl =>
    cases fl with
    | ret u => exact I1.after got
    | next => exact (show False from got).elim
    | brk => exact (show False from got).elim
    | cont => exact (show False from got).elim
end
end Lk

/-! LkK9 -/
set_option Elab.async false
set_option linter.all false
set_option maxRecDepth 100000
set_option maxHeartbeats 4000000
set_option autoImplicit false
/-! repr of what a hand tells. -/
namespace Lk
open PySem PySem.Spec PyProof.Rows L2
open Ty (r)
def dO : Option Int → PyData
  | none => .none
  | some i => .int i
def dT (l : List (Option Int)) : PyData := .tuple (l.map dO)
def dB : Option (List (Option Int)) → PyData
  | none => .none
  | some l => dT l
def dTell (a : List (Option Int)) (b : Option (List (Option Int))) (k : Bool) : PyData := .list [dT a, dB b, .bool k]
def SmO (l : List (Option Int)) : Prop := l.length < 1000 ∧ ∀ x, some x ∈ l → 0 ≤ x ∧ x < 10 ^ 10
def SmB (b : Option (List (Option Int))) : Prop := ∀ l, b = some l → SmO l
theorem sm_int {x : Int} (h : 0 ≤ x ∧ x < 10 ^ 10) : PyData.showable (.int x) = true ∧ PyData.leavesShort 13 (.int x) = true := by
  constructor
  · show decide (x.natAbs.log2 < 1920) = true
    refine decide_eq_true ?_
    have : x.natAbs < 2 ^ 34 := by omega
    by_cases h0 : x.natAbs = 0
    · rw [h0]; decide
    · exact Nat.lt_trans ((Nat.log2_lt h0).mpr this) (by decide)
  · show decide ((PyData.shown (.int x)).length ≤ 13) = true
    refine decide_eq_true (Nat.le_trans (toString_length_le h.1 (k := 10) (by decide) h.2) (by decide))
theorem sm_all : ∀ {l : List (Option Int)}, (∀ x, some x ∈ l → 0 ≤ x ∧ x < 10 ^ 10) → PyData.showableAll (l.map dO) = true ∧ PyData.leavesShortAll 13 (l.map dO) = true ∧ PyData.hasDictAll (l.map dO) = false ∧ PyData.depthAll (l.map dO) = 0 ∧ PyData.bulkAll (l.map dO) = l.length
  | [], _ => ⟨rfl, rfl, rfl, rfl, rfl⟩
  | o :: l, h => by
    obtain ⟨h1, h2, h3, h4, h5⟩ := sm_all (l := l) fun x hx => h x (List.mem_cons_of_mem _ hx)
    rw [List.map_cons]
    cases o with
    | none => exact ⟨by simp only [dO, PyData.showableAll, h1, PyData.showable]; rfl, by simp only [dO, PyData.leavesShortAll, h2, PyData.leavesShort]; rfl, by simp only [dO, PyData.hasDictAll, h3, PyData.hasDict]; rfl, by simp only [dO, PyData.depthAll, h4, PyData.depth]; rfl, by simp only [dO, PyData.bulkAll, h5, PyData.bulk, List.length_cons]; omega⟩
    | some x =>
      obtain ⟨k1, k2⟩ := sm_int (h x (by simp))
      exact ⟨by simp only [dO, PyData.showableAll, h1, k1]; rfl, by simp only [dO, PyData.leavesShortAll, h2, k2]; rfl, by simp only [dO, PyData.hasDictAll, h3, PyData.hasDict]; rfl, by simp only [dO, PyData.depthAll, h4, PyData.depth]; rfl, by simp only [dO, PyData.bulkAll, h5, PyData.bulk, List.length_cons]; omega⟩
theorem sm_T {l : List (Option Int)} (h : SmO l) : (dT l).showable = true ∧ (dT l).leavesShort 13 = true ∧ (dT l).hasDict = false ∧ (dT l).depth ≤ 1 ∧ (dT l).bulk ≤ 1000 := by
  obtain ⟨h1, h2, h3, h4, h5⟩ := sm_all h.2
  have hl := h.1
  exact ⟨by simp only [dT, PyData.showable]; exact h1, by simp only [dT, PyData.leavesShort]; exact h2, by simp only [dT, PyData.hasDict]; exact h3, by simp only [dT, PyData.depth]; omega, by simp only [dT, PyData.bulk]; omega⟩
theorem sm_B {b : Option (List (Option Int))} (h : SmB b) : (dB b).showable = true ∧ (dB b).leavesShort 13 = true ∧ (dB b).hasDict = false ∧ (dB b).depth ≤ 1 ∧ (dB b).bulk ≤ 1000 := by
  cases b with
  | none => exact ⟨by simp only [dB, PyData.showable], by simp only [dB, PyData.leavesShort], by simp only [dB, PyData.hasDict], by simp only [dB, PyData.depth]; omega, by simp only [dB, PyData.bulk]; omega⟩
  | some l => exact sm_T (h l rfl)
theorem sm_tell {a : List (Option Int)} {b : Option (List (Option Int))} {k : Bool} (ha : SmO a) (hb : SmB b) : (dTell a b k).showable = true ∧ (dTell a b k).leavesShort 13 = true ∧ (dTell a b k).hasDict = false ∧ (dTell a b k).depth ≤ 2 ∧ (dTell a b k).bulk ≤ 2 ^ 20 := by
  obtain ⟨a1, a2, a3, a4, a5⟩ := sm_T ha
  obtain ⟨b1, b2, b3, b4, b5⟩ := sm_B hb
  refine ⟨?_, ?_, ?_, ?_, ?_⟩
  · simp only [dTell, PyData.showable, PyData.showableAll, a1, b1]; rfl
  · simp only [dTell, PyData.leavesShort, PyData.leavesShortAll, a2, b2]; rfl
  · simp only [dTell, PyData.hasDict, PyData.hasDictAll, a3, b3]; rfl
  · simp only [dTell, PyData.depth, PyData.depthAll]; omega
  · simp only [dTell, PyData.bulk, PyData.bulkAll]; omega
theorem reads_opts {h : Heap} : ∀ {l : List (Option Int)} {us : List Value}, Vals (l.map vO) us → ReadsAll h us (l.map dO) []
  | [], _, .nil => .nil
  | none :: l, _, .cons f t => by
    have f : _ = Value.none := f
    subst f
    exact .cons (as := []) .none (reads_opts t)
  | some i :: l, _, .cons f t => by
    obtain ⟨tk, rfl⟩ := f
    exact .cons (as := []) (.int i tk) (reads_opts t)
section
variable {X : Cx} {H0 : Hp} {G : List Slot} {e a b c o tg : Expr} {es elts : List Expr} {pos p p1 apos tpos : Pos}
theorem reads_T {P : Program} {w : World} {H : Hp} {h : Heap} {l : List (Option Int)} {v : V} {u : Value} (hok : HOk P w H h) (hv : r l v H) (ru : RelV v u) : Reads h u (dT l) [] := by
  obtain ⟨q, xs, e1, e2, e3⟩ := hv
  subst e1
  cases (show u = Value.ref q from ru)
  have ex := A2.opts e3
  subst ex
  obtain ⟨_, its, hr, o, g1, g2, n, g3⟩ := hok q _ e2
  exact .tuple g1 g2 g3 (reads_opts (by simpa using hr))
theorem reads_B {P : Program} {w : World} {H : Hp} {h : Heap} {b : Option (List (Option Int))} {v : V} {u : Value} (hok : HOk P w H h) (hv : r b v H) (ru : RelV v u) : Reads h u (dB b) [] := by
  cases b with
  | none =>
    have hv : v = .non := hv
    subst hv
    cases (show u = Value.none from ru)
    exact .none
  | some l => exact reads_T hok (show r l v H from hv) ru
theorem call_tell (hgu : X.A.guards = some []) {m : Nat} (hr : Room m X.A) : CallR X (.builtin "repr") (fun xs H Q => ∃ (q : Addr) (a : List (Option Int)) (b : Option (List (Option Int))) (k : Bool) (v1 v2 : V), xs = [.ref q] ∧ H q = some (.lst [v1, v2, .bl k]) ∧ r a v1 H ∧ r b v2 H ∧ SmO a ∧ SmB b ∧ Q (.str (dTell a b k).shown) H) := by
  intro pins s σ H xs us Q I rr h
  obtain ⟨q, a, b, k, v1, v2, rfl, hq, ra, rb, sa, sb, hQ⟩ := h
  obtain ⟨u, rfl, ru⟩ := vals1 rr
  cases (show u = Value.ref q from ru)
  obtain ⟨_, its, n, hv, g1⟩ := I.hok q _ hq
  obtain ⟨h1, h2, h3, h4, h5⟩ := sm_tell (k := k) sa sb
  have hun := hr.units
  cases hv with
  | cons f1 t1 =>
    cases t1 with
    | cons f2 t2 =>
      cases t2 with
      | cons f3 t3 =>
        cases t3
        have f3 : _ = Value.bool k := f3
        subst f3
        have rd : Reads s.heap (.ref q) (dTell a b k) (q :: ([] ++ ([] ++ ([] ++ [])))) := .list g1 rfl rfl (.cons (reads_T I.hok ra f1) (.cons (reads_B I.hok rb f2) (.cons (.bool k) .nil)))
        exact repr_of_reads' rd h1 (fun z => by rw [h3] at z; cases z) hgu (by omega) (fun _ _ z => z) (fun h' u tk hk => ⟨.str _, H, I.kept hk, ⟨_, rfl⟩, hQ⟩) (PyData.shown_fits_bulk (B := 13) (by decide) (by decide) h2 h5)
/-- repr([a, b, c]) -/
theorem e_tell {u : List (Option Int)} {w : Option (List (Option Int))} {k : Bool} {m : Nat} (hgu : X.A.guards = some []) (hr : Room m X.A) (hm : X.mg "repr" = none) (su : SmO u) (sw : SmB w) (ha : E X H0 G a (Val u)) (hb : E X H0 G b (Val w)) (hc : E X H0 G c (Val k)) (hg : Gl X "repr" := by rfl)
    (hs0 : starEach [.List [a, b, c] p1] X.env = (false, eval (.List [a, b, c] p1) X.env) :: starEach [] X.env := by rfl) (hs : starEach [a, b, c] X.env = (false, eval a X.env) :: starEach [b, c] X.env := by rfl) (hs2 : starEach [b, c] X.env = (false, eval b X.env) :: starEach [c] X.env := by rfl) (hs3 : starEach [c] X.env = (false, eval c X.env) :: starEach [] X.env := by rfl) (hpl : (backTo pos (starEach [] X.env)).any (·.1) = false := by rfl) :
    E X H0 G (.Call (.Name "repr" p) [.List [a, b, c] p1] [] pos) (Val ((dTell u w k).shown)) := fun σ H Q h0 q =>
  pe_out (pe_callB (call_tell hgu hr) hg hm (by decide +kernel) (pa_cons (pe_lst (pa_cons pe_in (pa_cons pe_in (pa_cons pe_in pa_nil hs3) hs2) hs)) pa_nil hs0) (by decide) (by decide) hs0 hpl) (ha σ H _ h0 fun v1 H1 s1 q1 => hb σ H1 _ (h0.ext s1) fun v2 H2 s2 q2 => hc σ H2 _ ((h0.ext s1).ext s2) fun v3 H3 s3 q3 => ⟨szl (by show (3 : Nat) < 1000000; decide), fun z hz => by
    have q3 : v3 = .bl k := q3
    subst q3
    have sn := Same.new (o := .lst [v1, v2, .bl k]) hz
    exact ⟨z, u, w, k, v1, v2, rfl, upd_same, Ty.mono (Same.trans (Same.trans s2 s3) sn) q1, Ty.mono (Same.trans s3 sn) q2, su, sw, q _ _ (Same.trans (Same.trans (Same.trans s1 s2) s3) sn) rfl⟩⟩)
end
end Lk

/-! LkG4 -/
set_option Elab.async false
set_option linter.all false
set_option maxRecDepth 100000
set_option maxHeartbeats 4000000
set_option autoImplicit false
/-! What is told is small; what hangs on a hand's own row alone. -/
namespace Lk
open PySem PySem.Spec PyProof.Rows L2
open Ty (r)
variable {K : PySem.W.Frag}
theorem cs_sm {p t : Int} {d : DayS} (hp : 0 < p) : ∀ x ∈ dayCries p t d, 0 ≤ x ∧ x < p := by
  have h1 : ∀ x ∈ criesI p t d.files d.wishes, 0 ≤ x ∧ x < p := fun x hx => by
    unfold criesI at hx
    obtain ⟨lot, _, rfl⟩ := List.mem_map.mp hx
    exact ⟨Int.emod_nonneg _ (Int.ne_of_gt hp), Int.emod_lt_of_pos _ hp⟩
  intro x hx
  unfold dayCries at hx
  split at hx
  · unfold withSpares at hx
    rcases List.mem_append.mp hx with hx | hx
    · exact h1 x hx
    · obtain ⟨j, _, rfl⟩ := List.mem_map.mp hx
      exact ⟨Int.emod_nonneg _ (Int.ne_of_gt hp), Int.emod_lt_of_pos _ hp⟩
  · exact h1 x hx
theorem entry_in {l : List Int} {i : Int} : entry l i ∈ l ∨ entry l i = 0 := by
  unfold entry
  cases h : atI l i with
  | none => exact .inr rfl
  | some u => exact .inl (atI_mem h)
theorem cutL_mem {α : Type} {l : List α} {lo hi : Option Int} {x : α} (h : x ∈ cutL l lo hi) : x ∈ l := List.mem_of_mem_drop (List.mem_of_mem_take h)
theorem behind_sm {s : Sol K} {n : Nat} (h : SolIn s n) (c : Int) : 0 ≤ entry (behindI s c) 0 ∧ entry (behindI s c) 0 < s.field := by
  have p0 := h.p0.1
  rcases entry_in (l := behindI s c) (i := 0) with e | e
  · unfold behindI at e
    have e := cutL_mem e
    unfold behindI
    unfold lineAt at e ⊢
    cases hl : atI s.lines ((dget s.lineOf c).getD 0) with
    | none => rw [hl] at e; simp at e
    | some row =>
      rw [hl] at e
      exact (h.rows row (atI_mem hl)).2 _ e
  · rw [e]; exact ⟨Int.le_refl _, p0⟩
theorem kb_fold {s : Sol K} {n : Nat} {p : Int} (h : SolIn s n) (hf : s.field = p) {places : List ((Int × Int) × Int)} {own : Int} : ∀ (l : List (Int × Option Int)) (f : List (Option Int)), (∀ e ∈ l, ∀ x, e.2 = some x → 0 ≤ x ∧ x < p) → (∀ x, some x ∈ f → 0 ≤ x ∧ x < p) → ∀ x, some x ∈ l.foldl (kbF s places own) f → 0 ≤ x ∧ x < p
  | [], f, _, hF => hF
  | e :: l, f, hl, hF => kb_fold h hf l _ (fun e he => hl e (List.mem_cons_of_mem _ he)) fun x hx => by
    unfold kbF at hx
    rcases List.mem_append.mp hx with hx | hx
    · exact hF x hx
    · have hx : some x = _ := List.mem_singleton.mp hx
      split at hx
      · cases hx
        rw [← hf]
        exact behind_sm h _
      · exact hl e (by simp) x hx.symm
theorem shelf_mem {hands t hand : Int} {f : List Int} {x : Int} (h : some x ∈ shelfI hands t hand f) : x ∈ f := by
  unfold shelfI at h
  obtain ⟨e, he, e2⟩ := List.mem_map.mp h
  split at e2
  · cases e2; exact (enm_mem he).2.2
  · cases e2
def pcOf (K : PySem.W.Frag) (hands t p : Int) (D : DayS) (one : Int) (row : List (Option Int)) : Option (List (Option Int)) := if (wishOf D.wishes one).isNone = true then none else some (knownBy K p t D.wishes one (hadOf hands t one D.files) (rowsOf p (madeI t D.wishes) row))
/-- a house of which a hand may be asked -/
structure HTell (hands t p : Int) (n : Nat) (D : DayS) (hd : List (List (Option Int))) (one : Int) (row : List (Option Int)) (h : Hou K) : Prop where
  hh : h.hands = hands
  ht : h.t = t
  hp : h.p = p
  dy : h.day = some { D with heard := hd }
  ok : DayOk hands t p n { D with heard := hd }
  rw : atI hd one = some row
theorem HTell.pc {hands t p : Int} {n : Nat} {D : DayS} {hd : List (List (Option Int))} {one : Int} {row : List (Option Int)} {h : Hou K} (g : HTell hands t p n D hd one row h) : piecesI K h.hands h.t h.p h.day one = pcOf K hands t p D one row := by
  rw [g.dy, g.hh, g.ht, g.hp]
  unfold piecesI pcOf
  show (if (wishOf D.wishes one).isNone = true then none else some (knownBy K p t D.wishes one (hadOf hands t one D.files) (rowsOf p (madeI t D.wishes) ((atI hd one).getD [])))) = _
  rw [g.rw]
  rfl
theorem HTell.hd {hands t p : Int} {n : Nat} {D : DayS} {hd : List (List (Option Int))} {one : Int} {row : List (Option Int)} {h : Hou K} (g : HTell hands t p n D hd one row h) : heardOf h.day one = row := by
  rw [g.dy]
  show (atI hd one).getD [] = row
  rw [g.rw]
  rfl
theorem HTell.pcSm {hands t p : Int} {n : Nat} (c : Cfg hands t p) {D : DayS} {hd : List (List (Option Int))} {one : Int} {row : List (Option Int)} {h : Hou K} (g : HTell hands t p n D hd one row h) (o0 : 0 ≤ one) (o1 : one < hands) : SmB (pcOf K hands t p D one row) := by
  intro l el
  have p1 := c.p1
  have c0 := c.grid.c0
  unfold pcOf at el
  split at el
  · cases el
  rename_i hw
  cases el
  have hw : wishOf D.wishes one ≠ none := fun z => hw (by rw [z]; rfl)
  have kb := (pcOk_of (K := K) c g.ok o0 o1).kb hw
  have kb : KbOk p t D.wishes one (hadOf hands t one D.files) (rowsOf p (madeI t D.wishes) ((atI hd one).getD [])) := kb
  rw [g.rw] at kb
  have kb : KbOk p t D.wishes one (hadOf hands t one D.files) (rowsOf p (madeI t D.wishes) row) := kb
  obtain ⟨s1, s2, s3, s4⟩ := solI_ok (K := K) (kb_mk kb) (lackedI D.wishes (hadOf hands t one D.files)).length (by rw [Int.toNat_natCast]; exact Nat.le_refl _)
  have ek : kbSol K p t D.wishes (hadOf hands t one D.files) (rowsOf p (madeI t D.wishes) row) = (rng 0 (lackedI D.wishes (hadOf hands t one D.files)).length).foldl clearS (sol0 K p (kbRows p t D.wishes (hadOf hands t one D.files) (rowsOf p (madeI t D.wishes) row)) (lackedI D.wishes (hadOf hands t one D.files)).length) := by
    unfold kbSol mkSol
    rw [Int.toNat_natCast]
  rw [← ek] at s1 s3
  obtain ⟨had1, had2⟩ := had_get (hands := hands) (t := t) (hand := one) D.files D.files [] (fun e he => he) (fun m g e => by unfold dget at e; simp at e)
  have gsm : ∀ e ∈ enm ((dget (hadOf hands t one D.files) ((wishOf D.wishes one).getD 0)).getD []), ∀ x, e.2 = some x → 0 ≤ x ∧ x < p := fun e he x ex => by
    have hm := (enm_mem he).2.2
    rw [ex] at hm
    cases hg : dget (hadOf hands t one D.files) ((wishOf D.wishes one).getD 0) with
    | none => rw [hg] at hm; simp at hm
    | some g' =>
      rw [hg] at hm
      obtain ⟨e', he', rfl⟩ := had1 _ _ hg
      exact (g.ok.f.all e' he').2 x (shelf_mem hm)
  refine ⟨?_, fun x hx => ?_⟩
  · unfold knownBy
    rw [kbF_len, enm_len]
    cases hg : dget (hadOf hands t one D.files) ((wishOf D.wishes one).getD 0) with
    | none => show 0 + 0 < 1000; decide
    | some g' =>
      obtain ⟨e', he', rfl⟩ := had1 _ _ hg
      have := (g.ok.f.all e' he').1
      show 0 + (shelfI hands t one e'.2).length < 1000
      rw [shelf_len]
      omega
  · have := kb_fold s1.toSolIn s3 _ _ gsm (fun x hx => by simp at hx) x hx
    omega
/-- what is asked of each house by _law_alike -/
theorem HTell.ask {hands t p : Int} {n : Nat} (c : Cfg hands t p) {D : DayS} {hd : List (List (Option Int))} {one : Int} {row : List (Option Int)} {h : Hou K} (g : HTell hands t p n D hd one row h) (o0 : 0 ≤ one) (o1 : one < hands) : (0 ≤ one ∧ one < h.hands) ∧ (∀ d, h.day = some d → PcOk K h.hands h.t h.p d one) ∧ ∀ d, h.day = some d → (atI d.heard one).isSome = true :=
  tellOk_of c g.hh g.ht g.hp g.dy g.ok o0 o1
theorem HDay.tell {hands t p : Int} {n : Nat} {D : DayS} {CS : List Int} {i : Nat} {hd : List (List (Option Int))} {h : Hou K} (g : HDay hands t p n D CS i hd h) (o : DayOk hands t p n D) (hi : i < 900) {one : Int} {row : List (Option Int)} (hr : atI hd one = some row) : HTell hands t p n D hd one row h :=
  ⟨g.g.hh, g.g.ht, g.g.hp, g.dy, g.dayOk o hi, hr⟩
theorem cut_all {α : Type} {l : List α} {m : Int} (hm : m = l.length) : cutL l none (some m) = l := by
  subst hm
  unfold cutL HT.sIx
  simp
  rw [if_neg (by omega), List.take_length]
theorem row_sm {p : Int} {row : List (Option Int)} (hl : row.length < 1000) (hp : p < 1000000000) (h : ∀ x, some x ∈ row → 0 ≤ x ∧ x < p) : SmO row := ⟨hl, fun x hx => by have := h x hx; omega⟩
end Lk

/-! LkK10 -/
set_option Elab.async false
set_option linter.all false
set_option maxRecDepth 100000
set_option maxHeartbeats 4000000
set_option autoImplicit false
/-! _law_alike -/
namespace Lk
open PySem PySem.Spec PyProof.Rows L2
open Ty (r)
section
variable {X : Cx} {H0 : Hp} {G : List Slot} {e a b c o tg : Expr} {es elts : List Expr} {pos p p1 apos tpos : Pos}
theorem e_eqStr {l k : List Str} {m : Nat} (hr : Room m X.A) (h : l = k) (ha : E X H0 G a (Val (Lst.mk l))) (hb : E X H0 G b (Val (Lst.mk k))) : E X H0 G (.Compare a [.Eq] [b] pos) (Val true) := e_cmp (x := Lst.mk l) (y := Lst.mk k) (op_eqV hr.units) (fun v w H Q ⟨p1, xs, a1, a2, a3⟩ ⟨p2, ys, b1, b2, b3⟩ q => by
  subst h
  refine ⟨1, by decide, .inl ⟨p1, p2, xs, ys, a1, b1, .inl (.inl a2), .inl (.inl b2), ?_⟩, q _ H (Same.refl H) rfl⟩
  have go : ∀ {l : List Str} {xs ys : List V}, A2 l xs H → A2 l ys H → Paired (EqV X.K H 1) xs ys := fun {l} => by
    induction l with
    | nil => intro xs ys h1 h2; cases h1; cases h2; exact .nil
    | cons t l ih =>
      intro xs ys h1 h2
      cases h1 with
      | cons f1 t1 =>
        cases h2 with
        | cons f2 t2 =>
          have f1 : _ = V.str t := f1
          have f2 : _ = V.str t := f2
          subst f1 f2
          exact .cons (.inl ⟨rfl, rfl⟩) (ih t1 t2)
  exact go (l := l) a3 b3) ha hb
end
def spAlike (K : PySem.W.Frag) : Sp := fun vs H Q _ => ∃ (LH : Addr) (ps : List Adr) (one many : Int) (hd : List (Option Int)) (pc : Option (List (Option Int))), vs = [.ref LH, .int one, .int many] ∧ r (Lst.mk ps) (.ref LH) H ∧ (0 < ps.length ∧ ps.length < 100) ∧ SmO hd ∧ SmB pc ∧ (∀ x ∈ ps, ∃ h : Hou K, HouAt K h x.a H ∧ ((0 ≤ one ∧ one < h.hands) ∧ (∀ d, h.day = some d → PcOk K h.hands h.t h.p d one) ∧ ∀ d, h.day = some d → (atI d.heard one).isSome = true) ∧ cutL (heardOf h.day one) none (some many) = hd ∧ piecesI K h.hands h.t h.p h.day one = pc) ∧ ∀ H', Same H H' → Q (.bl true) H'
section
variable {P : Program} {w : World} {K : PySem.W.Frag} {mg : Str → Option Value} {base : Heap}
theorem map_rep {α β : Type} (t : β) : ∀ l : List α, (l.map fun _ => t) = (List.replicate l.length [t]).flatten
  | [] => rfl
  | y :: l => by
    rw [List.map_cons, map_rep t l, List.length_cons, List.replicate_succ, List.flatten_cons]
    rfl
theorem ok_law_alike (T : Tx K mg) : CalG P w K mg base 14 "_law_alike" ["_law_houses", "_law_one", "_law_many"] (spAlike K) := by
  obtain ⟨fd, F⟩ := T.f_law_alike
  refine ⟨He.fAd K ("_law_alike", none), fd, fnG_of F sc_law_alike (fun vs H Q Ex ⟨_, _, _, _, _, _, e, _⟩ => by rw [e]; rfl) (fun cdv A outer s H vs Q Ex gu hr ⟨LH, ps, one, many, hd, pc, e, hL, hl, sh, sp, hh, hq⟩ => ?_), T.g_law_alike, F.kp, F.bindsN (fun _ _ _ _ _ _ us hl => match us, hl with | [_, _, _], _ => rfl)⟩
  subst e
  suffices hB : B (cxOf CX0 P w K mg base N_law_alike "_law_alike" (defScope s_law_alike) (He.fAd K ("_law_alike", none)) cdv A outer s H Ex) H [.im (Adr.mk LH), .im one, .im many, .no, .no] (defBody s_law_alike) { nx := fun _ H' => Q .non H', rt := Q } from
    hB _ H (ent_at (R := .cons (Adr.mk LH) (.cons one (.cons many .nil))) (gs := [.im (Adr.mk LH), .im one, .im many]) (n := 2) (ent_im (ent_im (ent_im ent_nil))) (by rfl) ⟨_, _, rfl, rfl, _, _, rfl, rfl, _, _, rfl, rfl, rfl⟩)
  refine b_lc (ff := fun _ : Adr => (dTell hd pc (knowsI pc)).shown) 3 [("_law_house", 4)] sc_law_alike.nd (ei_old (l := ps) (E.there (e_var 0) hL)) (by omega) (fun s H C cl fp => tgt_name 4 sc_law_alike.nd) (fun s0 H1 C cl fp H0' hs x hx => ?_) ?_
  · obtain ⟨h, hat, ⟨k1, k2, k3⟩, k4, k5⟩ := hh x hx
    have hat' := hat.mono hs
    refine E.fresh (e_tell (m := 13) gu hr T.m_repr sh sp ?_ ?_ ?_)
    · rw [← k4]
      exact e_sliceT (e_meth (ok_House_heard T) hr (h, one) ⟨k1, k3⟩ (hou_no "heard" (fun _ _ _ _ _ _ _ _ _ => by rfl) h) (E.ofOld (E.there (x := h) (e_var 4) ⟨x.a, rfl, hat'⟩)) (ea_cons (e_var 1) ea_nil)) eo_none (eo_some (e_var 2))
    · rw [← k5]
      exact e_meth (ok_House_pieces T) hr (h, one) ⟨k1, k2⟩ (hou_no "pieces" (fun _ _ _ _ _ _ _ _ _ => by rfl) h) (E.ofOld (E.there (x := h) (e_var 4) ⟨x.a, rfl, hat'⟩)) (ea_cons (e_var 1) ea_nil)
    · rw [← k5]
      exact e_meth (ok_House_knows T) hr (h, one) ⟨k1, k2⟩ (hou_no "knows" (fun _ _ _ _ _ _ _ _ _ => by rfl) h) (E.ofOld (E.there (x := h) (e_var 4) ⟨x.a, rfl, hat'⟩)) (ea_cons (e_var 1) ea_nil)
  obtain ⟨t, et⟩ : ∃ t, (dTell hd pc (knowsI pc)).shown = t := ⟨_, rfl⟩
  rw [et]
  have e0 : atI (ps.map fun _ : Adr => t) 0 = some t := by
    cases ps with
    | nil => exact absurd hl.1 (by decide)
    | cons y ys => exact atI_zero
  have er : (ps.map fun _ : Adr => t) = (List.replicate ((ps.length : Nat) : Int).toNat [t]).flatten := by
    rw [Int.toNat_natCast]
    exact map_rep t ps
  refine b_retQ (e_eqStr (l := ps.map fun _ : Adr => t) (k := (List.replicate ((ps.length : Nat) : Int).toNat [t]).flatten) hr er (e_own 3) (E.val (e_rep (l := [t]) (x := ((ps.length : Nat) : Int)) (by omega) (by rw [Int.toNat_natCast]; show 1 * ps.length < 1000000; omega) (E.val (e_lst1 (e_ixL e0 (e_own 3) e_int))) (e_lenL (l := ps) T.m_len (E.ofOld (E.there (e_var 0) hL)))))) (fun H1 v H2 s1 s2 rv => ?_)
  have rv : v = .bl true := rv
  subst rv
  exact hq H2 (Same.trans s1 s2)
end
end Lk

/-! LkK11 -/
set_option Elab.async false
set_option linter.all false
set_option maxRecDepth 100000
set_option maxHeartbeats 4000000
set_option autoImplicit false
/-! The rules that law wants. -/
namespace Lk
open PySem PySem.Spec PyProof.Rows L2
open Ty (r)
section
variable {X : Cx} {H0 : Hp} {G : List Slot} {e a b c d o tg : Expr} {es elts : List Expr} {st : Stmt} {pos p p1 p2 p' apos tpos : Pos} {kk : Nat} {Ts Us : List Th} {R R' : V → Hp → Prop} {Rb Rb' : Bool → Hp → Prop} {Ra : List V → Hp → Prop} {D : Ends} {rest body els : List Stmt}
theorem e_lst5 {α : Type} [Im α] {f : Expr} {u w z t y : α} (ha : E X H0 G a (Val u)) (hb : E X H0 G b (Val w)) (hc : E X H0 G c (Val z)) (hd : E X H0 G d (Val t)) (hf : E X H0 G f (Val y)) (hs : starEach [a, b, c, d, f] X.env = (false, eval a X.env) :: starEach [b, c, d, f] X.env := by rfl) (hs2 : starEach [b, c, d, f] X.env = (false, eval b X.env) :: starEach [c, d, f] X.env := by rfl) (hs3 : starEach [c, d, f] X.env = (false, eval c X.env) :: starEach [d, f] X.env := by rfl) (hs4 : starEach [d, f] X.env = (false, eval d X.env) :: starEach [f] X.env := by rfl) (hs5 : starEach [f] X.env = (false, eval f X.env) :: starEach [] X.env := by rfl) : E X H0 G (.List [a, b, c, d, f] pos) (New (Lst.mk [u, w, z, t, y])) := fun σ H Q h0 q =>
  pe_out (pe_lst (pa_cons pe_in (pa_cons pe_in (pa_cons pe_in (pa_cons pe_in (pa_cons pe_in pa_nil hs5) hs4) hs3) hs2) hs)) (ha σ H _ h0 fun v1 H1 s1 p1 => hb σ H1 _ (h0.ext s1) fun v2 H2 s2 p2 => hc σ H2 _ ((h0.ext s1).ext s2) fun v3 H3 s3 p3 => hd σ H3 _ (((h0.ext s1).ext s2).ext s3) fun v4 H4 s4 p4 => hf σ H4 _ ((((h0.ext s1).ext s2).ext s3).ext s4) fun v5 H5 s5 p5 => ⟨szl (by show (5 : Nat) < 1000000; decide), fun m hm => by
    have s03 := Same.trans (Same.trans (Same.trans (Same.trans s1 s2) s3) s4) s5
    have nw := Same.new (o := .lst [v1, v2, v3, v4, v5]) hm
    have sn := Same.trans s03 nw
    exact q _ _ sn ⟨m, _, rfl, cut_new (Same.free s03 hm) upd_same, .cons (Im.keep (keep_cut sn) (Ty.mono (Same.trans (Same.trans (Same.trans (Same.trans s2 s3) s4) s5) nw) p1)) (.cons (Im.keep (keep_cut sn) (Ty.mono (Same.trans (Same.trans (Same.trans s3 s4) s5) nw) p2)) (.cons (Im.keep (keep_cut sn) (Ty.mono (Same.trans (Same.trans s4 s5) nw) p3)) (.cons (Im.keep (keep_cut sn) (Ty.mono (Same.trans s5 nw) p4)) (.cons (Im.keep (keep_cut sn) (Ty.mono nw p5)) .nil))))⟩⟩)
/-- min(a, b) -/
theorem es_minI {A : Type} {φ : A → Prop} {f : A → Int} {Fs : A → List Th} {x : Int} [g : ImG G] (hc : X.calm = true) (hm : X.mg "min" = none) (ha : ∀ H0, Sep Ts H0 → E X H0 G a (Val x)) (hb : ES X G b Ts (fun v H => ∃ y, φ y ∧ Sep (ValT v (f y) :: Fs y) H)) (hg : Gl X "min" := by rfl) (hs : starEach [a, b] X.env = (false, eval a X.env) :: starEach [b] X.env := by rfl) (hs2 : starEach [b] X.env = (false, eval b X.env) :: starEach [] X.env := by rfl) (hpl : (backTo pos (starEach [b] X.env)).any (·.1) = false := by rfl) :
    ES X G (.Call (.Name "min" p) [a, b] [] pos) Ts (fun v H => ∃ y, φ y ∧ Sep (ValT v (if f y < x then f y else x) :: Fs y) H) := fun σ H Q h0 s q =>
  pe_out (pe_callB (call_min2 hc) hg hm boot_min (pa_cons pe_in (pa_cons pe_in pa_nil hs2) hs) (by decide) (by decide) hs hpl) (ha H s σ H _ h0 fun v H1 s1 p1 => hb σ H1 _ (h0.ims g (keepT s1) (Same.refl H1)) (s.mono s1) fun w H2 k2 ⟨y, fy, sy⟩ => by
    have p1 : v = .int x := p1
    have p2 : w = .int (f y) := sy.at0
    subst p1 p2
    exact ⟨x, f y, rfl, q _ H2 (KeepT.trans (keepT s1) k2) ⟨y, fy, Sep.im sy.drop rfl⟩⟩)
/-- [a, b, ..] of things that are made -/
theorem es_lstA {A α : Type} [Im α] {φ : A → Prop} {f : A → List α} {Fs : A → List Th} (ha : EAS X G es Ts (fun vs H => ∃ x, φ x ∧ A2 (f x) vs H ∧ vs.length < 1000 ∧ Sep (Fs x) H)) : ES X G (.List es pos) Ts (fun v H => ∃ x, φ x ∧ Sep (ValT v (Lst.mk (f x)) :: Fs x) H) := fun σ H Q h0 s q =>
  pe_out (pe_lst pa_in) (ha σ H _ h0 s fun vs H1 k1 ⟨x, fx, a1, l1, s1⟩ => ⟨szl (by omega), fun m hm => by
    have nw := Same.new (o := .lst vs) hm
    exact q _ _ (KeepT.trans k1 (keepT nw)) ⟨x, fx, Sep.new (T := ValT (.ref m) (Lst.mk (f x))) s1 nw ⟨m, vs, rfl, cut_new hm upd_same, A2.keep (l := f x) (keep_cut nw) (A2.mono (l := f x) nw a1)⟩⟩⟩)
/-- house.day(w, spares=s) -/
theorem es_dayK {m : Nat} {pa : Addr} {pl : Sem Bool} {kp : Pos} {se : Expr} {wi : List (Option Int)} {sp : Int} [g : ImG G] (T : Tx X.K X.mg) (hr : Room m X.A) (hk : 7 ≤ m) (ho : ∀ H0, Sep Ts H0 → E X H0 G o (Val (Adr.mk pa))) (ha : ∀ H0, Sep Ts H0 → E X H0 G e (Val wi)) (hse : ∀ H0, Sep Ts H0 → E X H0 G se (Val sp))
    (hf : ∀ H, Sep Ts H → ∃ Ws h, Sep (HouT (K := X.K) pa h :: Ws) H ∧ DyOk h wi sp ∧ ∀ v H', Sep (HouT (K := X.K) pa (dayH h wi sp) :: Ws) H' → R v H')
    (hall : (backToKw pos (keywordEach [⟨some "spares", se, kp⟩] X.env)).all (·.1.isSome) = true := by rfl) (hks : (backToKw pos (keywordEach [⟨some "spares", se, kp⟩] X.env)).filterMap (·.1) = [("spares" : Str)] := by rfl) (hst : starEach [e] X.env = (false, eval e X.env) :: starEach [] X.env := by rfl)
    (hpl : ((backTo pos (starEach [e] X.env)).any (·.1) || (backToKw pos (keywordEach [⟨some "spares", se, kp⟩] X.env)).any (·.1.isNone)) = false := by rfl)
    (ht : eval (.Call (.Attribute o "day" apos) [e] [⟨some "spares", se, kp⟩] pos) X.env = (do
      let ov ← eval o X.env
      standAt apos.atName
      let (f, first) ← holding [ov] (getMethod ov "day" pl)
      callWith pos f first (backTo pos (starEach [e] X.env)) (backToKw pos (keywordEach [⟨some "spares", se, kp⟩] X.env))) := by rfl) : ES X G (.Call (.Attribute o "day" apos) [e] [⟨some "spares", se, kp⟩] pos) Ts R := fun σ H Q h0 s q => by
  obtain ⟨fd, F1, F2⟩ := fn_House_day (P := X.prog) (w := X.w) (base := X.base) T
  refine pe_out (pe_mKw (n := 1) (m := "day") pe_in T.c_House T.e_House_day F1 (hr.mono hk) (day_kbinds F2) pass0 (pa_cons pe_in pa_nil hst) (pk_cons pe_in pk_nil) hall hks hst hpl ht) (ho H s σ H _ h0 fun v H1 s1 p1 => ?_)
  have p1 : v = .ref pa := p1
  subst p1
  have sH1 := s.mono s1
  obtain ⟨_, h1, hh1, _⟩ := hf H1 sH1
  obtain ⟨dx, FA, AA, vd, vc, HF⟩ := hh1.at0
  refine ⟨pa, dx, _, rfl, HF.ins, by rfl, ha H1 sH1 σ H1 _ (h0.ims g (keepT s1) (Same.refl H1)) fun v2 H2 s2 p2 => ?_⟩
  have sH2 := sH1.mono s2
  refine hse H2 sH2 σ H2 _ (h0.ims g (keepT (Same.trans s1 s2)) (Same.refl H2)) fun v3 H3 s3 p3 => ⟨rfl, rfl, ?_⟩
  have p3 : v3 = .int sp := p3
  subst p3
  obtain ⟨Ws, h', ⟨Hc, t1, t2, t3⟩, a3, a4⟩ := hf H3 (sH2.mono s3)
  exact ⟨(wi, sp), Hc, h', pa, [v2, .int sp], rfl, ⟨v2, _, rfl, Ty.mono s3 p2, _, _, rfl, rfl, rfl⟩, t1, t2, a3, fun u H' k3 k4 k5 k6 => q u H' (KeepT.trans (keepT (Same.trans (Same.trans s1 s2) s3)) k4) (a4 u H' ⟨Hc, k3, k5, t3⟩)⟩
/-- _law_alike(houses, one, many) -/
theorem es_alike {m k : Nat} [g : ImG G] {LH : Addr} {ps : List Adr} {one many : Int} {hd : List (Option Int)} {pc : Option (List (Option Int))} {ps' : List Str} (F : CalG X.prog X.w X.K X.mg X.base k "_law_alike" ps' (spAlike X.K)) (hgu : X.A.guards = some []) (hr : Room m X.A) (ha : ∀ H0, Sep Ts H0 → E X H0 G a (Val (Adr.mk LH))) (hb : ∀ H0, Sep Ts H0 → E X H0 G b (Val one)) (hc : ∀ H0, Sep Ts H0 → E X H0 G c (Val many)) (hL : ∀ H, Sep Ts H → r (Lst.mk ps) (.ref LH) H) (hl : 0 < ps.length ∧ ps.length < 100) (s1 : SmO hd) (s2 : SmB pc)
    (hh : ∀ H, Sep Ts H → ∀ x ∈ ps, ∃ h : Hou X.K, HouAt X.K h x.a H ∧ ((0 ≤ one ∧ one < h.hands) ∧ (∀ d, h.day = some d → PcOk X.K h.hands h.t h.p d one) ∧ ∀ d, h.day = some d → (atI d.heard one).isSome = true) ∧ cutL (heardOf h.day one) none (some many) = hd ∧ piecesI X.K h.hands h.t h.p h.day one = pc) (hk : k ≤ m := by decide) (hg : Gl X "_law_alike" := by rfl)
    (hs : starEach [a, b, c] X.env = (false, eval a X.env) :: starEach [b, c] X.env := by rfl) (hs2 : starEach [b, c] X.env = (false, eval b X.env) :: starEach [c] X.env := by rfl) (hs3 : starEach [c] X.env = (false, eval c X.env) :: starEach [] X.env := by rfl) (hpl : (backTo pos (starEach [b, c] X.env)).any (·.1) = false := by rfl) : ES X G (.Call (.Name "_law_alike" p) [a, b, c] [] pos) Ts (fun v H => ∃ x : Unit, True ∧ Sep (ValT v true :: Ts) H) := fun σ H Q h0 s q => by
  obtain ⟨f, fd, F1, F2, F3, F4⟩ := F.ex
  refine pe_out (pe_callG (Ex := E0) F1 hgu (hr.mono hk) hg F2 F3 F4 (pa_cons pe_in (pa_cons pe_in (pa_cons pe_in pa_nil hs3) hs2) hs) (by decide) hs hpl) (ha H s σ H _ h0 fun v1 H1 t1 q1 => hb H1 (s.mono t1) σ H1 _ (h0.ims g (keepT t1) (Same.refl H1)) fun v2 H2 t2 q2 => hc H2 ((s.mono t1).mono t2) σ H2 _ (h0.ims g (keepT (Same.trans t1 t2)) (Same.refl H2)) fun v3 H3 t3 q3 => ?_)
  have q1 : v1 = .ref LH := q1
  have q2 : v2 = .int one := q2
  have q3 : v3 = .int many := q3
  subst q1 q2 q3
  have sH3 := ((s.mono t1).mono t2).mono t3
  exact ⟨LH, ps, one, many, hd, pc, rfl, hL H3 sH3, hl, s1, s2, hh H3 sH3, fun H' t4 => q _ H' (keepT (Same.trans (Same.trans (Same.trans t1 t2) t3) t4)) ⟨(), trivial, Sep.im (sH3.mono t4) rfl⟩⟩
end
end Lk

/-! LkK12 -/
set_option Elab.async false
set_option linter.all false
set_option maxRecDepth 100000
set_option maxHeartbeats 4000000
set_option autoImplicit false
/-! law: a house's turn -/
namespace Lk
open PySem PySem.Spec PyProof.Rows L2
open Ty (r)
def forBody : Stmt → List Stmt
  | .For _ _ b _ _ => b
  | _ => []
def stAt (l : List Stmt) (i : Nat) : Stmt := l.getD i (.Pass ⟨0, 0, 0, 0⟩)
def lawB : List Stmt := forBody (stAt (defBody s_law) 0)
def turnB : List Stmt := forBody (stAt lawB 11)
def houseB : List Stmt := forBody (stAt turnB 1)
/-- behind j hands: the hand one is away just where it is not to hear -/
def AwF (one : Int) (b : Bool) (j : Nat) (a : List (Int × Bool)) : Prop := one < j → (dget a one).isSome = !b
theorem AwF.home {one : Int} {b b' : Bool} {j : Nat} {K : PySem.W.Frag} {h : Hou K} (f : AwF one b j h.away) (o0 : 0 ≤ one) (hb : (j : Int) = one → b' = b) (e : b' = true) : AwF one b (j + 1) (homeH h (j : Int)).away := fun hl => by
  rw [homeH_get]
  by_cases hj : (j : Int) = one
  · rw [decide_eq_true hj, ← hb hj, e]; rfl
  · rw [decide_eq_false hj, f (by omega)]; rfl
theorem AwF.away {one : Int} {b b' : Bool} {j : Nat} {K : PySem.W.Frag} {h : Hou K} (f : AwF one b j h.away) (o0 : 0 ≤ one) (hb : (j : Int) = one → b' = b) (e : b' = false) : AwF one b (j + 1) (awayH h (j : Int)).away := fun hl => by
  rw [awayH_get]
  by_cases hj : (j : Int) = one
  · rw [decide_eq_true hj, ← hb hj, e]; rfl
  · rw [decide_eq_false hj, f (by omega)]; rfl
section
variable {P : Program} {w : World} {K : PySem.W.Frag} {mg : Str → Option Value} {base : Heap} {cdv : Value} {A : Around} {outer : List Env} {s : Shared} {H : Hp} {Ex : XK}
theorem law_house (T : Tx K mg) {k : Nat} (hr : Room k (A.deeper (envOfC "law" (defScope s_law) s.heap.objs.size (He.fAd K ("law", none)) cdv))) (hk : 14 ≤ k) {H0 : Hp} {sc q Lf LH LN pk : Addr} {kk hands t p one many more tn n : Int} {wi : List (Option Int)} {b : Bool} {m i L : Nat} {D : DayS} {CS nums : List Int} {hd : List (List (Option Int))} {row : List (Option Int)} {g : Hou K} {Vs : List Th} {Dd : Ends}
    (hS : Sep (HouT pk g :: PotT q n :: ValT (.ref LN) (Lst.mk nums) :: Vs) H0) (c : Cfg hands t p) (gd : HDay hands t p m D CS i hd g) (hi : i < CS.length) (hc : CS.length < 900) (aw : g.away.length ≤ L) (hL : L < 900) (hrow : atI hd one = some row) (o0 : 0 ≤ one) (o1 : one < hands) (hn : n < 2 ^ 37) (hnl : nums.length < 100)
    (hd' : ∀ (g' : Hou K) hd' H1, HDay hands t p m D CS (i + 1) hd' g' → atI hd' one = some (row ++ [if b = true then some ((atI CS (i : Int)).getD 0) else none]) → g'.away.length ≤ L + 4 → Sep (ValT (.ref LN) (Lst.mk (nums ++ [(atI CS (i : Int)).getD 0])) :: HouT pk g' :: PotT q (n + 4) :: Vs) H1 → B (cxOf CX0 P w K mg base N_law "law" (defScope s_law) (He.fAd K ("law", none)) cdv A outer s H Ex).nox H1 [.im (Adr.mk sc), .im kk, .im (Adr.mk q), .im hands, .im t, .im p, .im (Adr.mk Lf), .im wi, .im one, .im many, .im more, .im (Adr.mk LH), .no, .im (Adr.mk pk), .im tn, .im b, .im (Adr.mk LN), .no, .no, .no] [] Dd) :
    B (cxOf CX0 P w K mg base N_law "law" (defScope s_law) (He.fAd K ("law", none)) cdv A outer s H Ex).nox H0 [.im (Adr.mk sc), .im kk, .im (Adr.mk q), .im hands, .im t, .im p, .im (Adr.mk Lf), .im wi, .im one, .im many, .im more, .im (Adr.mk LH), .no, .im (Adr.mk pk), .im tn, .im b, .im (Adr.mk LN), .no, .no, .no] houseB Dd := by
  have hh := c.hh
  have hr' : Room 14 (A.deeper (envOfC "law" (defScope s_law) s.heap.objs.size (He.fAd K ("law", none)) cdv)) := hr.mono hk
  refine bs_for (l := rng 0 hands.toNat) (Gs := fun _ => [.im (Adr.mk sc), .im kk, .im (Adr.mk q), .im hands, .im t, .im p, .im (Adr.mk Lf), .im wi, .im one, .im many, .im more, .im (Adr.mk LH), .no, .im (Adr.mk pk), .im tn, .im b, .im (Adr.mk LN), .no, .no, .no]) (gs := fun _ => inferInstance) (T0 := AnyT) (Us := HouT pk g :: PotT q n :: ValT (.ref LN) (Lst.mk nums) :: Vs) (Ss := fun j Us => ∃ a : List (Int × Bool), AwF one b j a ∧ a.length ≤ L + j ∧ Us = HouT pk ({ g with away := a } : Hou K) :: PotT q (n + (j : Int)) :: ValT (.ref LN) (Lst.mk nums) :: Vs) hS (eis_rng1 T.m_range (fun H0 s => e_var 3) (by omega)) (tgt_name 17 sc_law.nd) (Sub.refl _) ⟨g.away, fun z => absurd z (by omega), by omega, by rw [Int.natCast_zero, Int.add_zero]⟩ (fun T1 j x H1 Us hx ⟨a, af, al, eU⟩ s1 => ?_) (fun H1 Us ⟨a, af, al, eU⟩ s1 => ?_) nox_own
  · subst eU
    have hj : j < hands.toNat := by have := (List.getElem?_eq_some_iff.mp hx).1; rwa [rng_len] at this
    have ex : x = (j : Int) := by
      rw [rng_get hj] at hx
      cases hx
      omega
    subst ex
    have ga : HDay hands t p m D CS i hd ({ g with away := a } : Hou K) := gd.aw
    show B _ H1 [.im (Adr.mk sc), .im kk, .im (Adr.mk q), .im hands, .im t, .im p, .im (Adr.mk Lf), .im wi, .im one, .im many, .im more, .im (Adr.mk LH), .no, .im (Adr.mk pk), .im tn, .im b, .im (Adr.mk LN), .im (j : Int), .no, .no] _ _
    refine bs_set 18 (R := fun v H => ∃ b' : Bool, ((j : Int) = one → b' = b) ∧ Sep (ValT v b' :: T1 :: HouT pk ({ g with away := a } : Hou K) :: PotT q (n + ((j + 1 : Nat) : Int)) :: ValT (.ref LN) (Lst.mk nums) :: Vs) H) s1 (es_if (k := decide ((j : Int) = one)) (fun H0 s => et_eq (e_var 17) (e_var 8)) (fun hk => ES.weak (es_val (x := b) fun H0 s => e_var 15) (fun v H s2 => ⟨b, fun _ => rfl, ?_⟩)) (fun hk => ES.weak (es_gtI (A := Int) (f := fun x => x) (y := 0) (Fs := fun _ => PotT q (n + (j : Int) + 1) :: T1 :: HouT pk ({ g with away := a } : Hou K) :: ValT (.ref LN) (Lst.mk nums) :: Vs) (es_take (q := q) (size := 3) (n := n + (j : Int)) (ok_law_take T) hr' (by decide) (by omega) (fun H0 s => e_var 2) (fun H0 s => e_int) (fun H s => s.front 2)) (fun x H0 s => e_int)) (fun v H ⟨x, fx, s2⟩ => ⟨decide (0 < x), fun z => ?_, ?_⟩))) (fun v H2 ⟨b', hb', s2⟩ => ⟨Bool, inferInstance, b', s2.at0, ?_⟩) sc_law.nd
    · have s3 : Sep (PotT q (n + (j : Int)) :: ValT v b :: T1 :: HouT pk ({ g with away := a } : Hou K) :: ValT (.ref LN) (Lst.mk nums) :: Vs) H := s2.front 3
      exact Sep.back (Ts := ValT v b :: T1 :: HouT pk ({ g with away := a } : Hou K) :: PotT q (n + ((j + 1 : Nat) : Int)) :: ValT (.ref LN) (Lst.mk nums) :: Vs) 3 (potUp (m := n + ((j + 1 : Nat) : Int)) (by omega) s3)
    · rw [decide_eq_true z] at hk; cases hk
    · have s3 : Sep (PotT q (n + (j : Int) + 1) :: ValT v (decide (0 < x)) :: T1 :: HouT pk ({ g with away := a } : Hou K) :: ValT (.ref LN) (Lst.mk nums) :: Vs) H := s2.front 1
      exact Sep.back (Ts := ValT v (decide (0 < x)) :: T1 :: HouT pk ({ g with away := a } : Hou K) :: PotT q (n + ((j + 1 : Nat) : Int)) :: ValT (.ref LN) (Lst.mk nums) :: Vs) 3 (potE (m := n + ((j + 1 : Nat) : Int)) (by omega) s3)
    show B _ H2 [.im (Adr.mk sc), .im kk, .im (Adr.mk q), .im hands, .im t, .im p, .im (Adr.mk Lf), .im wi, .im one, .im many, .im more, .im (Adr.mk LH), .no, .im (Adr.mk pk), .im tn, .im b, .im (Adr.mk LN), .im (j : Int), .im b', .no] _ _
    refine bs_set 19 (R := fun v H => ∃ (d : Bool) (a' : List (Int × Bool)), AwF one b (j + 1) a' ∧ a'.length ≤ L + (j + 1) ∧ Sep (ValT v d :: T1 :: HouT pk ({ g with away := a' } : Hou K) :: PotT q (n + ((j + 1 : Nat) : Int)) :: ValT (.ref LN) (Lst.mk nums) :: Vs) H) s2.drop (es_if (k := b') (fun H0 s => et_val (e_var 18))
      (fun hb => es_meth (ok_House_home T) hr' (fun _ _ _ _ _ _ _ _ _ => by rfl) (fun H0 s => e_var 13) (fun H s => ⟨_, Sep.get (T := HouT pk ({ g with away := a } : Hou K)) 1 s⟩) (eas_pure (Rs := .cons (j : Int) .nil) fun H0 s => ea_cons (e_var 17) ea_nil) (fun vs H ⟨a1, s3⟩ => ⟨(j : Int), ({ g with away := a } : Hou K), _, a1, s3.front 1, ⟨by omega, lt_of_eqI (show (j : Int) < hands by omega) gd.g.hh.symm⟩, fun v H' s4 rv => ⟨_, (homeH ({ g with away := a } : Hou K) (j : Int)).away, AwF.home (h := ({ g with away := a } : Hou K)) af o0 hb' hb, Nat.le_trans homeH_len (by show a.length ≤ _; omega), Sep.im (s4.back 1) rv⟩⟩))
      (fun hb => es_meth (ok_House_away T) hr' (fun _ _ _ _ _ _ _ _ _ => by rfl) (fun H0 s => e_var 13) (fun H s => ⟨_, Sep.get (T := HouT pk ({ g with away := a } : Hou K)) 1 s⟩) (eas_pure (Rs := .cons (j : Int) .nil) fun H0 s => ea_cons (e_var 17) ea_nil) (fun vs H ⟨a1, s3⟩ => ⟨(j : Int), ({ g with away := a } : Hou K), _, a1, s3.front 1, ⟨⟨by omega, lt_of_eqI (show (j : Int) < hands by omega) gd.g.hh.symm⟩, by show a.length < 1000; omega⟩, fun v H' s4 rv => ⟨_, (awayH ({ g with away := a } : Hou K) (j : Int)).away, AwF.away (h := ({ g with away := a } : Hou K)) af o0 hb' hb, Nat.le_trans awayH_len (by show a.length + 1 ≤ _; omega), Sep.im (s4.back 1) rv⟩⟩))) (fun v H3 ⟨d, a', af', al', s3⟩ => ⟨Bool, inferInstance, d, s3.at0, ?_⟩) sc_law.nd
    show B _ H3 [.im (Adr.mk sc), .im kk, .im (Adr.mk q), .im hands, .im t, .im p, .im (Adr.mk Lf), .im wi, .im one, .im many, .im more, .im (Adr.mk LH), .no, .im (Adr.mk pk), .im tn, .im b, .im (Adr.mk LN), .im (j : Int), .im b', .im d] _ _
    refine b_ifN (et_not (et_val (e_isi (z := d) T.m_isinstance T.m_bool (by decide +kernel) (by decide +kernel : kitB "bool" "bool" = some true) (e_var 19) ty_bool))) rfl ?_
    exact bs_fin s3.drop ⟨a', af', al', rfl⟩ (Sub.of [17, 18, 19])
  subst eU
  rw [rng_len] at af al s1
  have ga : HDay hands t p m D CS i hd ({ g with away := a } : Hou K) := gd.aw
  have hcall := ga.call c
  have s2 := s1.drop
  refine bs_app (A := Unit) (φ := fun _ => True) (f := fun _ => (atI CS (i : Int)).getD 0) (l := nums) (L := LN) (Fs := fun _ => HouT pk (callH ({ g with away := a } : Hou K)) :: PotT q (n + (hands.toNat : Int)) :: Vs) s2 (fun H0 s => e_var 16) (fun H s => Sep.get (T := ValT (.ref LN) (Lst.mk nums)) 2 s) (by omega) (es_meth0 (ok_House_call T) hr' (fun _ _ _ _ _ _ _ _ _ => by rfl) (fun H0 s => e_var 13) (fun H s => ⟨(), ({ g with away := a } : Hou K), _, rfl, s, callOk_of c ga hi (by omega), fun v H' s3 rv => ⟨(), trivial, Sep.im (Sep.front (T := ValT (.ref LN) (Lst.mk nums)) 2 s3) ?_⟩⟩)) (fun _ H2 _ s3 => ?_)
  · have e := nextN_of c ga
    rw [← e]
    exact rv
  · refine hd' _ _ H2 hcall ?_ (by show a.length ≤ _; omega) ?_
    · rw [atI_call o0 hrow]
      have af1 := af (by omega)
      show some (row ++ [hear a ((atI CS (i : Int)).getD 0) one]) = _
      unfold hear
      rw [af1]
      cases b <;> rfl
    · have s4 : Sep (PotT q (n + (hands.toNat : Int)) :: ValT (.ref LN) (Lst.mk (nums ++ [(atI CS (i : Int)).getD 0])) :: HouT pk (callH ({ g with away := a } : Hou K)) :: Vs) H2 := s3.front 2
      exact Sep.back (Ts := ValT (.ref LN) (Lst.mk (nums ++ [(atI CS (i : Int)).getD 0])) :: HouT pk (callH ({ g with away := a } : Hou K)) :: PotT q (n + 4) :: Vs) 2 (potUp (m := n + 4) (by omega) s4)
end
end Lk

/-! LkK13 -/
set_option Elab.async false
set_option linter.all false
set_option maxRecDepth 100000
set_option maxHeartbeats 4000000
set_option autoImplicit false
/-! law: a turn -/
namespace Lk
open PySem PySem.Spec PyProof.Rows L2
open Ty (r)
/-- a house that had its turn, or not yet -/
structure Had (K : PySem.W.Frag) (hands t p : Int) (m : Nat) (D : DayS) (CS : List Int) (i : Nat) (one : Int) (row : List (Option Int)) (L : Nat) (a : Hou K) : Prop where
  ex : ∃ hd, HDay hands t p m D CS i hd a ∧ atI hd one = some row
  aw : a.away.length ≤ L
theorem getD_in {CS : List Int} {i : Nat} (h : i < CS.length) : (atI CS (i : Int)).getD 0 ∈ CS := by
  have := atI_nat h
  rw [this]
  simp [h]
section
variable {P : Program} {w : World} {K : PySem.W.Frag} {mg : Str → Option Value} {base : Heap} {cdv : Value} {A : Around} {outer : List Env} {s : Shared} {H : Hp} {Ex : XK}
theorem law_turn (T : Tx K mg) (hgu : A.guards = some []) (hr : Room 16 (A.deeper (envOfC "law" (defScope s_law) s.heap.objs.size (He.fAd K ("law", none)) cdv))) {H0 : Hp} {sc q Lf LH p1 p2 p3 : Addr} {kk hands t p one many more n : Int} {wi : List (Option Int)} {m i L : Nat} {D : DayS} {CS : List Int} {row : List (Option Int)} {g1 g2 g3 : Hou K} {T1 : Th} {Vs : List Th} {Dd : Ends}
    (hS : Sep (T1 :: HouT p1 g1 :: HouT p2 g2 :: HouT p3 g3 :: PotT q n :: ValT (.ref LH) (Lst.mk [Adr.mk p1, Adr.mk p2, Adr.mk p3]) :: Vs) H0) (c : Cfg hands t p) (ok : DayOk hands t p m D) (k1 : Had K hands t p m D CS i one row L g1) (k2 : Had K hands t p m D CS i one row L g2) (k3 : Had K hands t p m D CS i one row L g3) (hi : i < CS.length) (hc : CS.length < 500) (hcs : ∀ x ∈ CS, 0 ≤ x ∧ x < p) (hL : L < 890) (hrow : ∀ x, some x ∈ row → 0 ≤ x ∧ x < p) (o0 : 0 ≤ one) (o1 : one < hands) (hn : n < 2 ^ 36)
    (hd' : ∀ (b : Bool) LN (a1 a2 a3 : Hou K) row' H1, Had K hands t p m D CS (i + 1) one row' (L + 4) a1 → Had K hands t p m D CS (i + 1) one row' (L + 4) a2 → Had K hands t p m D CS (i + 1) one row' (L + 4) a3 → (∀ x, some x ∈ row' → 0 ≤ x ∧ x < p) → Sep (T1 :: HouT p1 a1 :: HouT p2 a2 :: HouT p3 a3 :: PotT q (n + 20) :: ValT (.ref LH) (Lst.mk [Adr.mk p1, Adr.mk p2, Adr.mk p3]) :: Vs) H1 → B (cxOf CX0 P w K mg base N_law "law" (defScope s_law) (He.fAd K ("law", none)) cdv A outer s H Ex).nox H1 [.im (Adr.mk sc), .im kk, .im (Adr.mk q), .im hands, .im t, .im p, .im (Adr.mk Lf), .im wi, .im one, .im many, .im more, .im (Adr.mk LH), .no, .no, .im (i : Int), .im b, .im (Adr.mk LN), .no, .no, .no] [] Dd) :
    B (cxOf CX0 P w K mg base N_law "law" (defScope s_law) (He.fAd K ("law", none)) cdv A outer s H Ex).nox H0 [.im (Adr.mk sc), .im kk, .im (Adr.mk q), .im hands, .im t, .im p, .im (Adr.mk Lf), .im wi, .im one, .im many, .im more, .im (Adr.mk LH), .no, .no, .im (i : Int), .no, .no, .no, .no, .no] turnB Dd := by
  have hh := c.hh
  have pp := c.p1
  refine bs_par (par_l 15 16 rfl sc_law.nd) hS (eas_cons (A := Bool) (φ := fun b v => v = .bl b) (Fs := fun b => PotT q (n + 1) :: T1 :: HouT p1 g1 :: HouT p2 g2 :: HouT p3 g3 :: ValT (.ref LH) (Lst.mk [Adr.mk p1, Adr.mk p2, Adr.mk p3]) :: Vs) (ES.weak (es_gtI (A := Int) (f := fun x => x) (y := 0) (Fs := fun _ => PotT q (n + 1) :: T1 :: HouT p1 g1 :: HouT p2 g2 :: HouT p3 g3 :: ValT (.ref LH) (Lst.mk [Adr.mk p1, Adr.mk p2, Adr.mk p3]) :: Vs) (es_take (q := q) (size := 3) (n := n) (ok_law_take T) hr (by decide) (by omega) (fun H0 s => e_var 2) (fun H0 s => e_int) (fun H s => s.front 4)) (fun x H0 s => e_int)) (fun v H ⟨x, fx, s2⟩ => ⟨decide (0 < x), s2.at0, s2.drop⟩)) (fun b v hv => eas_one (es_new fun H0 s => e_lst0 (α := Int)))) (fun vs H1 ⟨b, v, ws, e1, e2, w1, e3, s1⟩ => ?_)
  obtain ⟨LN, xs, e4, _⟩ := s1.lstT
  subst e4 e2
  refine ⟨.bl b, .ref LN, Bool, Adr, inferInstance, inferInstance, b, ⟨LN⟩, by rw [e1, e3], rfl, rfl, ?_⟩
  show B _ H1 [.im (Adr.mk sc), .im kk, .im (Adr.mk q), .im hands, .im t, .im p, .im (Adr.mk Lf), .im wi, .im one, .im many, .im more, .im (Adr.mk LH), .no, .no, .im (i : Int), .im b, .im (Adr.mk LN), .no, .no, .no] _ _
  obtain ⟨num, enum⟩ : ∃ num, (atI CS (i : Int)).getD 0 = num := ⟨_, rfl⟩
  have num0 : 0 ≤ num ∧ num < p := by rw [← enum]; exact hcs _ (getD_in hi)
  obtain ⟨v, ev⟩ : ∃ v, (if b = true then some num else none) = v := ⟨_, rfl⟩
  have step : ∀ (pk : Addr) (g : Hou K) (n' : Int) (nums : List Int) (Ws : List Th) (H2 : Hp) (D2 : Ends), Had K hands t p m D CS i one row L g → n' < 2 ^ 37 → nums.length < 100 → Sep (HouT pk g :: PotT q n' :: ValT (.ref LN) (Lst.mk nums) :: Ws) H2 → (∀ (a : Hou K) H3, Had K hands t p m D CS (i + 1) one (row ++ [v]) (L + 4) a → Sep (ValT (.ref LN) (Lst.mk (nums ++ [num])) :: HouT pk a :: PotT q (n' + 4) :: Ws) H3 → B (cxOf CX0 P w K mg base N_law "law" (defScope s_law) (He.fAd K ("law", none)) cdv A outer s H Ex).nox H3 [.im (Adr.mk sc), .im kk, .im (Adr.mk q), .im hands, .im t, .im p, .im (Adr.mk Lf), .im wi, .im one, .im many, .im more, .im (Adr.mk LH), .no, .im (Adr.mk pk), .im (i : Int), .im b, .im (Adr.mk LN), .no, .no, .no] [] D2) → B (cxOf CX0 P w K mg base N_law "law" (defScope s_law) (He.fAd K ("law", none)) cdv A outer s H Ex).nox H2 [.im (Adr.mk sc), .im kk, .im (Adr.mk q), .im hands, .im t, .im p, .im (Adr.mk Lf), .im wi, .im one, .im many, .im more, .im (Adr.mk LH), .no, .im (Adr.mk pk), .im (i : Int), .im b, .im (Adr.mk LN), .no, .no, .no] houseB D2 := fun pk g n' nums Ws H2 D2 kg hn' hnl s2 hgo => by
    obtain ⟨hd, kd, kr⟩ := kg.ex
    refine law_house T hr (by decide) s2 c kd hi (by omega) kg.aw (by omega) kr o0 o1 hn' hnl fun g' hd' H3 z1 z2 z3 z4 => ?_
    rw [enum] at z2 z4
    rw [ev] at z2
    exact hgo g' H3 ⟨⟨hd', z1, z2⟩, z3⟩ z4
  refine bs_for (l := [Adr.mk p1, Adr.mk p2, Adr.mk p3]) (Gs := fun _ => [.im (Adr.mk sc), .im kk, .im (Adr.mk q), .im hands, .im t, .im p, .im (Adr.mk Lf), .im wi, .im one, .im many, .im more, .im (Adr.mk LH), .no, .no, .im (i : Int), .im b, .im (Adr.mk LN), .no, .no, .no]) (gs := fun _ => inferInstance) (T0 := ValT (.ref LH) (Lst.mk [Adr.mk p1, Adr.mk p2, Adr.mk p3])) (Us := ValT (.ref LN) (Lst.mk ([] : List Int)) :: PotT q (n + 1) :: T1 :: HouT p1 g1 :: HouT p2 g2 :: HouT p3 g3 :: Vs) (Ss := fun j Us => ∃ a1 a2 a3 : Hou K, (if 0 < j then Had K hands t p m D CS (i + 1) one (row ++ [v]) (L + 4) a1 else a1 = g1) ∧ (if 1 < j then Had K hands t p m D CS (i + 1) one (row ++ [v]) (L + 4) a2 else a2 = g2) ∧ (if 2 < j then Had K hands t p m D CS (i + 1) one (row ++ [v]) (L + 4) a3 else a3 = g3) ∧ Us = ValT (.ref LN) (Lst.mk (List.replicate j num)) :: PotT q (n + 1 + 4 * (j : Int)) :: T1 :: HouT p1 a1 :: HouT p2 a2 :: HouT p3 a3 :: Vs) s1 (eis_lst (fun H0 s => e_var 11) (fun H s => s.front 6)) (tgt_name 13 sc_law.nd) (Sub.refl _) ⟨g1, g2, g3, rfl, rfl, rfl, by rw [Int.natCast_zero, Int.mul_zero, Int.add_zero]; rfl⟩ (fun T2 j x H2 Us hx ⟨a1, a2, a3, z1, z2, z3, eU⟩ s2 => ?_) (fun H2 Us ⟨a1, a2, a3, z1, z2, z3, eU⟩ s2 => ?_) nox_own
  · subst eU
    have e5 : ∀ k : Nat, List.replicate (k + 1) num = List.replicate k num ++ [num] := fun k => by rw [List.replicate_succ']
    match j, hx, z1, z2, z3, s2 with
    | 0, hx, z1, z2, z3, s2 =>
      cases hx
      have z1 : a1 = g1 := z1
      have z2 : a2 = g2 := z2
      have z3 : a3 = g3 := z3
      subst z1 z2 z3
      have s3 : Sep (HouT p1 a1 :: PotT q (n + 1 + 4 * ((0 : Nat) : Int)) :: ValT (.ref LN) (Lst.mk (List.replicate 0 num)) :: T2 :: T1 :: HouT p2 a2 :: HouT p3 a3 :: Vs) H2 := ((s2.front 1).front 2).front 4
      refine step p1 a1 _ _ _ H2 _ k1 (by omega) (by rw [List.length_replicate]; decide) s3 fun a H3 ha s4 => ?_
      rw [← e5] at s4
      have s5 : Sep (PotT q (n + 1 + 4 * ((0 : Nat) : Int) + 4) :: T1 :: HouT p1 a :: ValT (.ref LN) (Lst.mk (List.replicate 1 num)) :: T2 :: HouT p2 a2 :: HouT p3 a3 :: Vs) H3 := (((s4.front 1).front 4).front 3)
      have s6 := potE (m := n + 1 + 4 * ((1 : Nat) : Int)) (by omega) s5
      have s7 : Sep (T2 :: ValT (.ref LN) (Lst.mk (List.replicate 1 num)) :: PotT q (n + 1 + 4 * ((1 : Nat) : Int)) :: T1 :: HouT p1 a :: HouT p2 a2 :: HouT p3 a3 :: Vs) H3 := (s6.front 3).front 4
      exact bs_fin s7 ⟨a, a2, a3, ha, rfl, rfl, rfl⟩ (Sub.of [13])
    | 1, hx, z1, z2, z3, s2 =>
      cases hx
      have z1 : Had K hands t p m D CS (i + 1) one (row ++ [v]) (L + 4) a1 := z1
      have z2 : a2 = g2 := z2
      have z3 : a3 = g3 := z3
      subst z2 z3
      have s3 : Sep (HouT p2 a2 :: PotT q (n + 1 + 4 * ((1 : Nat) : Int)) :: ValT (.ref LN) (Lst.mk (List.replicate 1 num)) :: T2 :: T1 :: HouT p1 a1 :: HouT p3 a3 :: Vs) H2 := ((s2.front 1).front 2).front 5
      refine step p2 a2 _ _ _ H2 _ k2 (by omega) (by rw [List.length_replicate]; decide) s3 fun a H3 ha s4 => ?_
      rw [← e5] at s4
      have s5 : Sep (PotT q (n + 1 + 4 * ((1 : Nat) : Int) + 4) :: T1 :: HouT p1 a1 :: HouT p2 a :: ValT (.ref LN) (Lst.mk (List.replicate 2 num)) :: T2 :: HouT p3 a3 :: Vs) H3 := ((((s4.front 1).front 5).front 5).front 4)
      have s6 := potE (m := n + 1 + 4 * ((2 : Nat) : Int)) (by omega) s5
      have s7 : Sep (T2 :: ValT (.ref LN) (Lst.mk (List.replicate 2 num)) :: PotT q (n + 1 + 4 * ((2 : Nat) : Int)) :: T1 :: HouT p1 a1 :: HouT p2 a :: HouT p3 a3 :: Vs) H3 := (s6.front 4).front 5
      exact bs_fin s7 ⟨a1, a, a3, z1, ha, rfl, rfl⟩ (Sub.of [13])
    | 2, hx, z1, z2, z3, s2 =>
      cases hx
      have z1 : Had K hands t p m D CS (i + 1) one (row ++ [v]) (L + 4) a1 := z1
      have z2 : Had K hands t p m D CS (i + 1) one (row ++ [v]) (L + 4) a2 := z2
      have z3 : a3 = g3 := z3
      subst z3
      have s3 : Sep (HouT p3 a3 :: PotT q (n + 1 + 4 * ((2 : Nat) : Int)) :: ValT (.ref LN) (Lst.mk (List.replicate 2 num)) :: T2 :: T1 :: HouT p1 a1 :: HouT p2 a2 :: Vs) H2 := ((s2.front 1).front 2).front 6
      refine step p3 a3 _ _ _ H2 _ k3 (by omega) (by rw [List.length_replicate]; decide) s3 fun a H3 ha s4 => ?_
      rw [← e5] at s4
      have s5 : Sep (PotT q (n + 1 + 4 * ((2 : Nat) : Int) + 4) :: T1 :: HouT p1 a1 :: HouT p2 a2 :: HouT p3 a :: ValT (.ref LN) (Lst.mk (List.replicate 3 num)) :: T2 :: Vs) H3 := (((((s4.front 1).front 6).front 6).front 6).front 5)
      have s6 := potE (m := n + 1 + 4 * ((3 : Nat) : Int)) (by omega) s5
      have s7 : Sep (T2 :: ValT (.ref LN) (Lst.mk (List.replicate 3 num)) :: PotT q (n + 1 + 4 * ((3 : Nat) : Int)) :: T1 :: HouT p1 a1 :: HouT p2 a2 :: HouT p3 a :: Vs) H3 := (s6.front 5).front 6
      exact bs_fin s7 ⟨a1, a2, a, z1, z2, ha, rfl⟩ (Sub.of [13])
    | j + 3, hx, z1, z2, z3, s2 => simp at hx
  subst eU
  have z1 : Had K hands t p m D CS (i + 1) one (row ++ [v]) (L + 4) a1 := z1
  have z2 : Had K hands t p m D CS (i + 1) one (row ++ [v]) (L + 4) a2 := z2
  have z3 : Had K hands t p m D CS (i + 1) one (row ++ [v]) (L + 4) a3 := z3
  have s3 : Sep (ValT (.ref LH) (Lst.mk [Adr.mk p1, Adr.mk p2, Adr.mk p3]) :: ValT (.ref LN) (Lst.mk [num, num, num]) :: PotT q (n + 1 + 4 * ((3 : Nat) : Int)) :: T1 :: HouT p1 a1 :: HouT p2 a2 :: HouT p3 a3 :: Vs) H2 := s2
  have hrow' : ∀ x, some x ∈ row ++ [v] → 0 ≤ x ∧ x < p := fun x hx => by
    rcases List.mem_append.mp hx with hx | hx
    · exact hrow x hx
    · have hx : some x = v := List.mem_singleton.mp hx
      rw [← ev] at hx
      split at hx
      · cases hx; exact num0
      · cases hx
  have hlen : (row ++ [v]).length = i + 1 := by
    obtain ⟨hd, kd, kr⟩ := z1.ex
    exact kd.hr _ (atI_mem kr)
  have smr : SmO (row ++ [v]) := row_sm (by omega) (by omega) hrow'
  have smp : SmB (pcOf K hands t p D one (row ++ [v])) := by
    obtain ⟨hd, kd, kr⟩ := z1.ex
    exact (kd.tell ok (by omega) kr).pcSm c o0 o1
  have ask : ∀ (pk : Addr) (a : Hou K), Had K hands t p m D CS (i + 1) one (row ++ [v]) (L + 4) a → ((0 ≤ one ∧ one < a.hands) ∧ (∀ d, a.day = some d → PcOk K a.hands a.t a.p d one) ∧ ∀ d, a.day = some d → (atI d.heard one).isSome = true) ∧ cutL (heardOf a.day one) none (some ((i : Int) + 1)) = row ++ [v] ∧ piecesI K a.hands a.t a.p a.day one = pcOf K hands t p D one (row ++ [v]) := fun pk a ha => by
    obtain ⟨hd, kd, kr⟩ := ha.ex
    have tl := kd.tell ok (by omega) kr
    exact ⟨tl.ask c o0 o1, by rw [tl.hd]; exact cut_all (by rw [hlen]; omega), tl.pc⟩
  show B _ H2 [.im (Adr.mk sc), .im kk, .im (Adr.mk q), .im hands, .im t, .im p, .im (Adr.mk Lf), .im wi, .im one, .im many, .im more, .im (Adr.mk LH), .no, .no, .im (i : Int), .im b, .im (Adr.mk LN), .no, .no, .no] _ _
  have ln0 : r (Lst.mk [num, num, num]) (.ref LN) H2 := Sep.get (T := ValT (.ref LN) (Lst.mk [num, num, num])) 1 s3
  refine b_ifN (et_neL (l := [num, num, num]) (k := (List.replicate (3 : Int).toNat [num]).flatten) hr (E.ofOld (E.there (e_var 16) ln0)) (E.val (e_rep (l := [num]) (x := 3) (by decide) (by show 1 * 3 < 1000000; decide) (E.val (e_lst1 (e_ixL (l := [num, num, num]) (u := num) (by rfl) (E.ofOld (E.there (e_var 16) ln0)) e_int))) e_int))) ?_ ?_
  · show (!decide ([num, num, num] = [num, num, num])) = false
    simp
  refine bs_if (Rb := fun k H => k = false ∧ Sep (T1 :: HouT p1 a1 :: HouT p2 a2 :: HouT p3 a3 :: PotT q (n + 20) :: ValT (.ref LH) (Lst.mk [Adr.mk p1, Adr.mk p2, Adr.mk p3]) :: Vs) H) s3 (est_w (ewt_and (A := Unit) (Fs := fun _ => PotT q (n + 14) :: ValT (.ref LH) (Lst.mk [Adr.mk p1, Adr.mk p2, Adr.mk p3]) :: T1 :: HouT p1 a1 :: HouT p2 a2 :: HouT p3 a3 :: Vs) (ESt.weak (est_eqI (A := Int) (f := fun x => x) (y := 0) (Fs := fun _ => PotT q (n + 1 + 4 * ((3 : Nat) : Int) + 1) :: ValT (.ref LH) (Lst.mk [Adr.mk p1, Adr.mk p2, Adr.mk p3]) :: ValT (.ref LN) (Lst.mk [num, num, num]) :: T1 :: HouT p1 a1 :: HouT p2 a2 :: HouT p3 a3 :: Vs) (es_take (q := q) (size := 2) (n := n + 1 + 4 * ((3 : Nat) : Int)) (ok_law_take T) hr (by decide) (by omega) (fun H0 s => e_var 2) (fun H0 s => e_int) (fun H s => s.front 2)) (fun x H0 s => e_int)) (fun k H ⟨x, fx, ek, s4⟩ => ?_))
    fun _ => ewt_and1 (ESt.weak (est_not (est_val (es_alike (ps := [Adr.mk p1, Adr.mk p2, Adr.mk p3]) (one := one) (many := (i : Int) + 1) (ok_law_alike T) hgu hr (fun H0 s => e_var 11) (fun H0 s => e_var 8) (fun H0 s => e_add (e_var 14) e_int) (fun H s => Sep.get (T := ValT (.ref LH) (Lst.mk [Adr.mk p1, Adr.mk p2, Adr.mk p3])) 1 s) (by show 0 < 3 ∧ 3 < 100; decide) smr smp (fun H s x hx => ?_)))) (fun k H ⟨_, _, ek, s4⟩ => ?_)))) (fun H3 z => absurd z.1 (by decide)) (fun H3 z => b_go (hd' b LN a1 a2 a3 (row ++ [v]) H3 z1 z2 z3 hrow' z.2))
  · have s4' : Sep (PotT q (n + 1 + 4 * ((3 : Nat) : Int) + 1) :: ValT (.ref LH) (Lst.mk [Adr.mk p1, Adr.mk p2, Adr.mk p3]) :: T1 :: HouT p1 a1 :: HouT p2 a2 :: HouT p3 a3 :: Vs) H := s4.del 2
    have s5 : Sep (PotT q (n + 14) :: ValT (.ref LH) (Lst.mk [Adr.mk p1, Adr.mk p2, Adr.mk p3]) :: T1 :: HouT p1 a1 :: HouT p2 a2 :: HouT p3 a3 :: Vs) H := potE (by omega) s4'
    by_cases hk : k = true
    · rw [if_pos hk]; exact ⟨(), s5⟩
    · rw [if_neg hk]
      refine ⟨rfl, ?_⟩
      have s6 := potUp (m := n + 20) (by omega) s5
      exact ((((s6.front 1).front 1).front 5).front 5 |>.front 5).front 5
  · simp only [List.mem_cons, List.not_mem_nil, or_false] at hx
    rcases hx with rfl | rfl | rfl
    · exact ⟨a1, Sep.get (T := HouT p1 a1) 3 s, ask p1 a1 z1⟩
    · exact ⟨a2, Sep.get (T := HouT p2 a2) 4 s, ask p2 a2 z2⟩
    · exact ⟨a3, Sep.get (T := HouT p3 a3) 5 s, ask p3 a3 z3⟩
  · refine ⟨by simpa using ek, ?_⟩
    have s6 := potUp (m := n + 20) (by omega) s4
    exact ((((s6.front 1).front 1).front 5).front 5 |>.front 5).front 5
end
end Lk

/-! LkK14 -/
set_option Elab.async false
set_option linter.all false
set_option maxRecDepth 100000
set_option maxHeartbeats 4000000
set_option autoImplicit false
/-! law: from the houses on -/
namespace Lk
open PySem PySem.Spec PyProof.Rows L2
open Ty (r)
theorem Had.start {K : PySem.W.Frag} {hands t p : Int} {n : Nat} (c : Cfg hands t p) {h : Hou K} (g : HGood hands t p n h) {wi : List (Option Int)} (w : WsOk hands n wi) {s one : Int} (o0 : 0 ≤ one) (o1 : one < hands) {L : Nat} (aw : h.away.length ≤ L) : Had K hands t p n (dayNew h wi s) (dayCries p t (dayNew h wi s)) 0 one [] L (dayH h wi s) := by
  have hh := c.hh
  refine ⟨⟨_, g.day c w s, ?_⟩, aw⟩
  rw [atI_nn o0, List.getElem?_replicate, if_pos (by omega)]
section
variable {P : Program} {w : World} {K : PySem.W.Frag} {mg : Str → Option Value} {base : Heap} {cdv : Value} {A : Around} {outer : List Env} {s : Shared} {H : Hp} {Ex : XK}
theorem law_rest (T : Tx K mg) (hgu : A.guards = some []) (hr : Room 16 (A.deeper (envOfC "law" (defScope s_law) s.heap.objs.size (He.fAd K ("law", none)) cdv))) {H0 : Hp} {sc q Lf LH p1 p2 p3 : Addr} {kk hands t p one many more n : Int} {wi : List (Option Int)} {fs : List (List Int)} {h3 : Hou K} {Vs : List Th} {Dd : Ends}
    (hS : Sep (HouT p1 (hou0 K hands t p) :: HouT p2 (hou0 K hands t p) :: HouT p3 h3 :: PotT q n :: ValT (.ref LH) (Lst.mk [Adr.mk p1, Adr.mk p2, Adr.mk p3]) :: ValT (.ref Lf) (Lst.mk fs) :: Vs) H0) (c : Cfg hands t p) (l3 : 1 ≤ fs.length ∧ fs.length ≤ 3) (lf : ∀ f ∈ fs, FileOk hands t p f) (wo : WsOk hands fs.length wi) (hm : many = madeI t wi) (ms : 0 ≤ more ∧ more < 3) (mp : more = 0 ∨ madeI t wi + more ≤ p) (hx3 : HX hands t p fs h3) (aw3 : h3.away.length ≤ 1) (o0 : 0 ≤ one) (o1 : one < hands) (hn : n < 2 ^ 35)
    (hend : ∀ H1, Sep Vs H1 → B (cxOf CX0 P w K mg base N_law "law" (defScope s_law) (He.fAd K ("law", none)) cdv A outer s H Ex).nox H1 [.im (Adr.mk sc), .im kk, .im (Adr.mk q), .im hands, .im t, .im p, .im (Adr.mk Lf), .im wi, .im one, .im many, .im more, .im (Adr.mk LH), .no, .no, .no, .no, .no, .no, .no, .no] [] Dd) : B (cxOf CX0 P w K mg base N_law "law" (defScope s_law) (He.fAd K ("law", none)) cdv A outer s H Ex).nox H0 [.im (Adr.mk sc), .im kk, .im (Adr.mk q), .im hands, .im t, .im p, .im (Adr.mk Lf), .im wi, .im one, .im many, .im more, .im (Adr.mk LH), .no, .no, .no, .no, .no, .no, .no, .no] (lawB.drop 9) Dd := by
  have hh := c.hh
  have pp := c.p1
  have cell := c.cell wo
  have m0 := cell.m0
  have ix0 : atI [Adr.mk p1, Adr.mk p2, Adr.mk p3] 0 = some (Adr.mk p1) := by rfl
  have ix1 : atI [Adr.mk p1, Adr.mk p2, Adr.mk p3] 1 = some (Adr.mk p2) := by rfl
  refine bs_for (l := fs) (Gs := fun _ => [.im (Adr.mk sc), .im kk, .im (Adr.mk q), .im hands, .im t, .im p, .im (Adr.mk Lf), .im wi, .im one, .im many, .im more, .im (Adr.mk LH), .no, .no, .no, .no, .no, .no, .no, .no]) (gs := fun _ => inferInstance) (T0 := ValT (.ref Lf) (Lst.mk fs)) (Us := HouT p1 (hou0 K hands t p) :: HouT p2 (hou0 K hands t p) :: HouT p3 h3 :: PotT q n :: ValT (.ref LH) (Lst.mk [Adr.mk p1, Adr.mk p2, Adr.mk p3]) :: Vs) (Ss := fun i Us => ∃ g1 g2 : Hou K, HNew hands t p (fs.take i) g1 ∧ g1.away = [] ∧ HNew hands t p (fs.take i) g2 ∧ g2.away = [] ∧ Us = HouT p1 g1 :: HouT p2 g2 :: HouT p3 h3 :: PotT q n :: ValT (.ref LH) (Lst.mk [Adr.mk p1, Adr.mk p2, Adr.mk p3]) :: Vs) hS (eis_lst (fun H0 s => e_var 6) (fun H s => s.front 5)) (tgt_name 12 sc_law.nd) (Sub.refl _) ⟨_, _, hNew0, rfl, hNew0, rfl, rfl⟩ (fun T1 i f H1 Us hx ⟨g1, g2, hN1, ha1, hN2, ha2, eU⟩ s1 => ?_) (fun H1 Us ⟨g1, g2, hN1, ha1, hN2, ha2, eU⟩ s1 => ?_) nox_own
  · subst eU
    have hi := (List.getElem?_eq_some_iff.mp hx).1
    have hfo := lf f (List.mem_of_getElem? hx)
    have e : fs.take (i + 1) = fs.take i ++ [f] := by rw [List.take_succ, hx]; rfl
    have tl : (fs.take i).length ≤ 3 := by rw [List.length_take]; omega
    show B _ H1 [.im (Adr.mk sc), .im kk, .im (Adr.mk q), .im hands, .im t, .im p, .im (Adr.mk Lf), .im wi, .im one, .im many, .im more, .im (Adr.mk LH), .im f, .no, .no, .no, .no, .no, .no, .no] _ _
    refine bs_drop (R := fun _ H => Sep (T1 :: HouT p1 (brg g1 f) :: HouT p2 g2 :: HouT p3 h3 :: PotT q n :: ValT (.ref LH) (Lst.mk [Adr.mk p1, Adr.mk p2, Adr.mk p3]) :: Vs) H) s1 (es_meth (ok_House_bring T) hr (fun _ _ _ _ _ _ _ _ _ => by rfl) (fun H0 s => e_ixL ix0 (E.ofOld (E.there (e_var 11) (Sep.get (T := ValT (.ref LH) (Lst.mk [Adr.mk p1, Adr.mk p2, Adr.mk p3])) 5 s))) e_int) (fun H s => ⟨g1, Sep.get (T := HouT p1 g1) 1 s⟩) (eas_pure (Rs := .cons f .nil) fun H0 s => ea_cons (e_var 12) ea_nil) (fun vs H ⟨a1, s3⟩ => ⟨f, g1, _, a1, s3.front 1, brOk_of c hN1.hh hN1.ht hN1.hp hN1.bd (by rw [hN1.fs, enm_len]; omega) hfo, fun v H' s4 rv => s4.back 1⟩)) (fun v H2 s2 => ?_)
    refine bs_drop (R := fun _ H => Sep (T1 :: HouT p1 (brg g1 f) :: HouT p2 (brg g2 f) :: HouT p3 h3 :: PotT q n :: ValT (.ref LH) (Lst.mk [Adr.mk p1, Adr.mk p2, Adr.mk p3]) :: Vs) H) s2 (es_meth (ok_House_bring T) hr (fun _ _ _ _ _ _ _ _ _ => by rfl) (fun H0 s => e_ixL ix1 (E.ofOld (E.there (e_var 11) (Sep.get (T := ValT (.ref LH) (Lst.mk [Adr.mk p1, Adr.mk p2, Adr.mk p3])) 5 s))) e_int) (fun H s => ⟨g2, Sep.get (T := HouT p2 g2) 2 s⟩) (eas_pure (Rs := .cons f .nil) fun H0 s => ea_cons (e_var 12) ea_nil) (fun vs H ⟨a1, s3⟩ => ⟨f, g2, _, a1, s3.front 2, brOk_of c hN2.hh hN2.ht hN2.hp hN2.bd (by rw [hN2.fs, enm_len]; omega) hfo, fun v H' s4 rv => s4.back 2⟩)) (fun v H2 s2 => ?_)
    exact bs_fin s2 ⟨brg g1 f, brg g2 f, by rw [e]; exact hN1.bring f, ha1, by rw [e]; exact hN2.bring f, ha2, rfl⟩ (Sub.of [12])
  subst eU
  rw [List.take_length] at hN1 hN2
  have hx1 : HX hands t p fs g1 := HNew.hx (l2 := []) (by rw [List.append_nil]; exact hN1) (by rw [List.append_nil]; omega) (by rw [List.append_nil]; exact lf)
  have hx2 : HX hands t p fs g2 := HNew.hx (l2 := []) (by rw [List.append_nil]; exact hN2) (by rw [List.append_nil]; omega) (by rw [List.append_nil]; exact lf)
  obtain ⟨D, eD⟩ : ∃ D, dayNew g1 wi more = D := ⟨_, rfl⟩
  obtain ⟨CS, eC⟩ : ∃ CS, dayCries p t D = CS := ⟨_, rfl⟩
  have eD2 : dayNew g2 wi more = D := (hx2.same (n := 0) hx1 wo more).trans eD
  have eD3 : dayNew h3 wi more = D := (hx3.same (n := 0) hx1 wo more).trans eD
  have ok : DayOk hands t p fs.length D := by rw [← eD]; exact dayOk_new c hx1.g wo more
  have dw : D.wishes = wi := by rw [← eD]; rfl
  have dsp : D.spares = more := by rw [← eD]; rfl
  have clen : CS.length = (madeI t wi).toNat + more.toNat := by
    rw [← eC, day_len c (d := D) (by rw [dw]; exact wo) (by rw [dsp]; exact ms.1), dw, dsp]
  have hcs : ∀ x ∈ CS, 0 ≤ x ∧ x < p := by rw [← eC]; exact cs_sm (by omega)
  have st1 : Had K hands t p fs.length D CS 0 one [] 1 (dayH g1 wi more) := by
    have := Had.start c hx1.g wo (s := more) o0 o1 (L := 1) (by rw [ha1]; decide)
    rw [eD, eC] at this
    exact this
  have st2 : Had K hands t p fs.length D CS 0 one [] 1 (dayH g2 wi more) := by
    have := Had.start c hx2.g wo (s := more) o0 o1 (L := 1) (by rw [ha2]; decide)
    rw [eD2, eC] at this
    exact this
  have st3 : Had K hands t p fs.length D CS 0 one [] 1 (dayH h3 wi more) := by
    have := Had.start c hx3.g wo (s := more) o0 o1 (L := 1) aw3
    rw [eD3, eC] at this
    exact this
  have dstep : ∀ (pk : Addr) (g : Hou K) (Ws : List Th) (H2 : Hp) (D2 : Ends), HX hands t p fs g → Sep (HouT pk g :: Ws) H2 → (∀ H3, Sep (HouT pk (dayH g wi more) :: Ws) H3 → B (cxOf CX0 P w K mg base N_law "law" (defScope s_law) (He.fAd K ("law", none)) cdv A outer s H Ex).nox H3 [.im (Adr.mk sc), .im kk, .im (Adr.mk q), .im hands, .im t, .im p, .im (Adr.mk Lf), .im wi, .im one, .im many, .im more, .im (Adr.mk LH), .no, .im (Adr.mk pk), .no, .no, .no, .no, .no, .no] [] D2) → B (cxOf CX0 P w K mg base N_law "law" (defScope s_law) (He.fAd K ("law", none)) cdv A outer s H Ex).nox H2 [.im (Adr.mk sc), .im kk, .im (Adr.mk q), .im hands, .im t, .im p, .im (Adr.mk Lf), .im wi, .im one, .im many, .im more, .im (Adr.mk LH), .no, .im (Adr.mk pk), .no, .no, .no, .no, .no, .no] (forBody (stAt lawB 10)) D2 := fun pk g Ws H2 D2 hg s2 hgo => by
    refine bs_drop (R := fun _ H => Sep (HouT pk (dayH g wi more) :: Ws) H) s2 (es_dayK T hr (by decide) (fun H0 s => e_var 13) (fun H0 s => e_var 7) (fun H0 s => e_var 10) (fun H s => ⟨Ws, g, s, dyOk_of c hg.g wo hg.bd ⟨ms.1, by omega⟩ mp, fun v H' s4 => s4⟩)) (fun v H3 s3 => hgo H3 s3)
  refine bs_for (l := [Adr.mk p1, Adr.mk p2, Adr.mk p3]) (Gs := fun _ => [.im (Adr.mk sc), .im kk, .im (Adr.mk q), .im hands, .im t, .im p, .im (Adr.mk Lf), .im wi, .im one, .im many, .im more, .im (Adr.mk LH), .no, .no, .no, .no, .no, .no, .no, .no]) (gs := fun _ => inferInstance) (T0 := ValT (.ref LH) (Lst.mk [Adr.mk p1, Adr.mk p2, Adr.mk p3])) (Us := ValT (.ref Lf) (Lst.mk fs) :: HouT p1 g1 :: HouT p2 g2 :: HouT p3 h3 :: PotT q n :: Vs) (Ss := fun j Us => Us = ValT (.ref Lf) (Lst.mk fs) :: HouT p1 (if 0 < j then dayH g1 wi more else g1) :: HouT p2 (if 1 < j then dayH g2 wi more else g2) :: HouT p3 (if 2 < j then dayH h3 wi more else h3) :: PotT q n :: Vs) s1 (eis_lst (fun H0 s => e_var 11) (fun H s => s.front 5)) (tgt_name 13 sc_law.nd) (Sub.refl _) rfl (fun T2 j x H2 Us hx eU s2 => ?_) (fun H2 Us eU s2 => ?_) nox_own
  · subst eU
    match j, hx, s2 with
    | 0, hx, s2 =>
      cases hx
      have s3 : Sep (HouT p1 g1 :: T2 :: ValT (.ref Lf) (Lst.mk fs) :: HouT p2 g2 :: HouT p3 h3 :: PotT q n :: Vs) H2 := s2.front 2
      refine dstep p1 g1 _ H2 _ hx1 s3 fun H3 s4 => ?_
      have s5 : Sep (T2 :: ValT (.ref Lf) (Lst.mk fs) :: HouT p1 (dayH g1 wi more) :: HouT p2 g2 :: HouT p3 h3 :: PotT q n :: Vs) H3 := s4.back 2
      exact bs_fin s5 rfl (Sub.of [13])
    | 1, hx, s2 =>
      cases hx
      have s3 : Sep (HouT p2 g2 :: T2 :: ValT (.ref Lf) (Lst.mk fs) :: HouT p1 (dayH g1 wi more) :: HouT p3 h3 :: PotT q n :: Vs) H2 := s2.front 3
      refine dstep p2 g2 _ H2 _ hx2 s3 fun H3 s4 => ?_
      have s5 : Sep (T2 :: ValT (.ref Lf) (Lst.mk fs) :: HouT p1 (dayH g1 wi more) :: HouT p2 (dayH g2 wi more) :: HouT p3 h3 :: PotT q n :: Vs) H3 := s4.back 3
      exact bs_fin s5 rfl (Sub.of [13])
    | 2, hx, s2 =>
      cases hx
      have s3 : Sep (HouT p3 h3 :: T2 :: ValT (.ref Lf) (Lst.mk fs) :: HouT p1 (dayH g1 wi more) :: HouT p2 (dayH g2 wi more) :: PotT q n :: Vs) H2 := s2.front 4
      refine dstep p3 h3 _ H2 _ hx3 s3 fun H3 s4 => ?_
      have s5 : Sep (T2 :: ValT (.ref Lf) (Lst.mk fs) :: HouT p1 (dayH g1 wi more) :: HouT p2 (dayH g2 wi more) :: HouT p3 (dayH h3 wi more) :: PotT q n :: Vs) H3 := s4.back 4
      exact bs_fin s5 rfl (Sub.of [13])
    | j + 3, hx, s2 => simp at hx
  subst eU
  have s3 : Sep (HouT p1 (dayH g1 wi more) :: HouT p2 (dayH g2 wi more) :: HouT p3 (dayH h3 wi more) :: PotT q n :: ValT (.ref LH) (Lst.mk [Adr.mk p1, Adr.mk p2, Adr.mk p3]) :: ValT (.ref Lf) (Lst.mk fs) :: Vs) H2 := ((((s2.front 1).front 1).front 5).front 5 |>.front 5).front 5
  refine bs_for (l := rng 0 (many + more).toNat) (Gs := fun _ => [.im (Adr.mk sc), .im kk, .im (Adr.mk q), .im hands, .im t, .im p, .im (Adr.mk Lf), .im wi, .im one, .im many, .im more, .im (Adr.mk LH), .no, .no, .no, .no, .no, .no, .no, .no]) (gs := fun _ => inferInstance) (T0 := AnyT) (Us := HouT p1 (dayH g1 wi more) :: HouT p2 (dayH g2 wi more) :: HouT p3 (dayH h3 wi more) :: PotT q n :: ValT (.ref LH) (Lst.mk [Adr.mk p1, Adr.mk p2, Adr.mk p3]) :: ValT (.ref Lf) (Lst.mk fs) :: Vs) (Ss := fun i Us => ∃ (a1 a2 a3 : Hou K) (row : List (Option Int)), Had K hands t p fs.length D CS i one row (1 + 4 * i) a1 ∧ Had K hands t p fs.length D CS i one row (1 + 4 * i) a2 ∧ Had K hands t p fs.length D CS i one row (1 + 4 * i) a3 ∧ (∀ x, some x ∈ row → 0 ≤ x ∧ x < p) ∧ Us = HouT p1 a1 :: HouT p2 a2 :: HouT p3 a3 :: PotT q (n + 20 * (i : Int)) :: ValT (.ref LH) (Lst.mk [Adr.mk p1, Adr.mk p2, Adr.mk p3]) :: ValT (.ref Lf) (Lst.mk fs) :: Vs) s3 (eis_rng1 T.m_range (fun H0 s => e_add (e_var 9) (e_var 10)) (by omega)) (tgt_name 14 sc_law.nd) (Sub.refl _) ⟨_, _, _, [], st1, st2, st3, fun x hx => by simp at hx, by rw [Int.natCast_zero, Int.mul_zero, Int.add_zero]⟩ (fun T1 i x H3 Us hx ⟨a1, a2, a3, row, z1, z2, z3, hrow, eU⟩ s4 => ?_) (fun H3 Us ⟨a1, a2, a3, row, z1, z2, z3, hrow, eU⟩ s4 => ?_) nox_own
  · subst eU
    have hi : i < (many + more).toNat := by have := (List.getElem?_eq_some_iff.mp hx).1; rwa [rng_len] at this
    have ex : x = (i : Int) := by
      rw [rng_get hi] at hx
      cases hx
      omega
    subst ex
    refine law_turn T hgu hr s4 c ok z1 z2 z3 (by omega) (by omega) hcs (by omega) hrow o0 o1 (by omega) fun b LN b1 b2 b3 row' H4 y1 y2 y3 hrow' s5 => ?_
    have e4 : 1 + 4 * i + 4 = 1 + 4 * (i + 1) := by omega
    rw [e4] at y1 y2 y3
    have s6 : Sep (PotT q (n + 20 * (i : Int) + 20) :: T1 :: HouT p1 b1 :: HouT p2 b2 :: HouT p3 b3 :: ValT (.ref LH) (Lst.mk [Adr.mk p1, Adr.mk p2, Adr.mk p3]) :: ValT (.ref Lf) (Lst.mk fs) :: Vs) H4 := s5.front 4
    have s7 := potE (m := n + 20 * ((i + 1 : Nat) : Int)) (by omega) s6
    have s8 : Sep (T1 :: HouT p1 b1 :: HouT p2 b2 :: HouT p3 b3 :: PotT q (n + 20 * ((i + 1 : Nat) : Int)) :: ValT (.ref LH) (Lst.mk [Adr.mk p1, Adr.mk p2, Adr.mk p3]) :: ValT (.ref Lf) (Lst.mk fs) :: Vs) H4 := s7.back 4
    exact bs_fin s8 ⟨b1, b2, b3, row', y1, y2, y3, hrow', rfl⟩ (Sub.of [14, 15, 16])
  subst eU
  rw [rng_len] at z1 z2 z3 s4
  obtain ⟨N, eN⟩ : ∃ N, (many + more).toNat = N := ⟨_, rfl⟩
  rw [eN] at z1 z2 z3 s4
  have hN : N < 200 := by omega
  obtain ⟨d1, kd1, kr1⟩ := z1.ex
  obtain ⟨d2, kd2, kr2⟩ := z2.ex
  obtain ⟨d3, kd3, kr3⟩ := z3.ex
  have hlen : row.length = N := kd1.hr _ (atI_mem kr1)
  have t1 := kd1.tell ok (by omega) kr1
  have t2 := kd2.tell ok (by omega) kr2
  have t3 := kd3.tell ok (by omega) kr3
  have smr : SmO row := row_sm (by omega) (by omega) hrow
  have smp : SmB (pcOf K hands t p D one row) := t1.pcSm c o0 o1
  have hmm : many + more = (row.length : Int) := by omega
  have askT : ∀ (b : Hou K) hd, HTell hands t p fs.length D hd one row b → ((0 ≤ one ∧ one < b.hands) ∧ (∀ d, b.day = some d → PcOk K b.hands b.t b.p d one) ∧ ∀ d, b.day = some d → (atI d.heard one).isSome = true) ∧ cutL (heardOf b.day one) none (some (many + more)) = row ∧ piecesI K b.hands b.t b.p b.day one = pcOf K hands t p D one row := fun b hd tl => ⟨tl.ask c o0 o1, by rw [tl.hd]; exact cut_all hmm, tl.pc⟩
  obtain ⟨nn, enn⟩ : ∃ nn, n + 20 * (N : Int) = nn := ⟨_, rfl⟩
  rw [enn] at s4
  have s5 : Sep (HouT p1 a1 :: HouT p2 a2 :: HouT p3 a3 :: PotT q nn :: ValT (.ref LH) (Lst.mk [Adr.mk p1, Adr.mk p2, Adr.mk p3]) :: ValT (.ref Lf) (Lst.mk fs) :: Vs) H3 := s4.drop
  refine bs_if (Rb := fun k H => k = false ∧ Sep (HouT p1 a1 :: HouT p2 a2 :: HouT p3 a3 :: PotT q nn :: ValT (.ref LH) (Lst.mk [Adr.mk p1, Adr.mk p2, Adr.mk p3]) :: ValT (.ref Lf) (Lst.mk fs) :: Vs) H) s5 (ESt.weak (est_not (est_val (es_alike (ps := [Adr.mk p1, Adr.mk p2, Adr.mk p3]) (one := one) (many := many + more) (ok_law_alike T) hgu hr (fun H0 s => e_var 11) (fun H0 s => e_var 8) (fun H0 s => e_add (e_var 9) (e_var 10)) (fun H s => Sep.get (T := ValT (.ref LH) (Lst.mk [Adr.mk p1, Adr.mk p2, Adr.mk p3])) 4 s) (by show 0 < 3 ∧ 3 < 100; decide) smr smp (fun H s x hx => ?_)))) (fun k H ⟨_, _, ek, s6⟩ => ⟨by simpa using ek, s6⟩)) (fun H4 z => absurd z.1 (by decide)) (fun H4 z => b_go ?_)
  · simp only [List.mem_cons, List.not_mem_nil, or_false] at hx
    rcases hx with rfl | rfl | rfl
    · exact ⟨a1, Sep.get (T := HouT p1 a1) 0 s, askT a1 d1 t1⟩
    · exact ⟨a2, Sep.get (T := HouT p2 a2) 1 s, askT a2 d2 t2⟩
    · exact ⟨a3, Sep.get (T := HouT p3 a3) 2 s, askT a3 d3 t3⟩
  obtain ⟨f0, ef0⟩ := atI_in (l := fs) (i := 0) (by decide) (by omega)
  have hf0 := lf f0 (atI_mem ef0)
  refine bs_drop (R := fun _ H => Sep (HouT p1 ({ a1 with byDay := false } : Hou K) :: HouT p2 a2 :: HouT p3 a3 :: PotT q nn :: ValT (.ref LH) (Lst.mk [Adr.mk p1, Adr.mk p2, Adr.mk p3]) :: ValT (.ref Lf) (Lst.mk fs) :: Vs) H) z.2 (es_meth0 (ok_House_night T) hr (fun _ _ _ _ _ _ _ _ _ => by rfl) (fun H0 s => e_ixL ix0 (E.ofOld (E.there (e_var 11) (Sep.get (T := ValT (.ref LH) (Lst.mk [Adr.mk p1, Adr.mk p2, Adr.mk p3])) 4 s))) e_int) (fun H s => ⟨(), a1, _, rfl, s, nightOk_of c kd1 ok (by omega), fun v H' s5 rv => s5⟩)) (fun v H5 s6 => ?_)
  refine bs_drop (R := fun _ H => Sep (HouT p1 (brg ({ a1 with byDay := false } : Hou K) f0) :: HouT p2 a2 :: HouT p3 a3 :: PotT q nn :: ValT (.ref LH) (Lst.mk [Adr.mk p1, Adr.mk p2, Adr.mk p3]) :: ValT (.ref Lf) (Lst.mk fs) :: Vs) H) s6 (es_meth (ok_House_bring T) hr (fun _ _ _ _ _ _ _ _ _ => by rfl) (fun H0 s => e_ixL ix0 (E.ofOld (E.there (e_var 11) (Sep.get (T := ValT (.ref LH) (Lst.mk [Adr.mk p1, Adr.mk p2, Adr.mk p3])) 4 s))) e_int) (fun H s => ⟨_, Sep.get (T := HouT p1 ({ a1 with byDay := false } : Hou K)) 0 s⟩) (eas_pure (Rs := .cons f0 .nil) fun H0 s => ea_cons (e_ixL (l := fs) ef0 (E.ofOld (E.there (e_var 6) (Sep.get (T := ValT (.ref Lf) (Lst.mk fs)) 5 s))) e_int) ea_nil) (fun vs H ⟨x1, s7⟩ => ⟨f0, ({ a1 with byDay := false } : Hou K), _, x1, s7, brOk_of (h := ({ a1 with byDay := false } : Hou K)) c kd1.g.hh kd1.g.ht kd1.g.hp rfl (Nat.lt_trans kd1.g.fl (by decide)) hf0, fun v H' s8 rv => s8⟩)) (fun v H6 s7 => ?_)
  have s8 : Sep (HouT p2 a2 :: HouT p1 (brg ({ a1 with byDay := false } : Hou K) f0) :: HouT p3 a3 :: PotT q nn :: ValT (.ref LH) (Lst.mk [Adr.mk p1, Adr.mk p2, Adr.mk p3]) :: ValT (.ref Lf) (Lst.mk fs) :: Vs) H6 := s7.front 1
  refine bs_drop (R := fun _ H => Sep (HouT p2 ({ a2 with byDay := false } : Hou K) :: HouT p1 (brg ({ a1 with byDay := false } : Hou K) f0) :: HouT p3 a3 :: PotT q nn :: ValT (.ref LH) (Lst.mk [Adr.mk p1, Adr.mk p2, Adr.mk p3]) :: ValT (.ref Lf) (Lst.mk fs) :: Vs) H) s8 (es_meth0 (ok_House_night T) hr (fun _ _ _ _ _ _ _ _ _ => by rfl) (fun H0 s => e_ixL ix1 (E.ofOld (E.there (e_var 11) (Sep.get (T := ValT (.ref LH) (Lst.mk [Adr.mk p1, Adr.mk p2, Adr.mk p3])) 4 s))) e_int) (fun H s => ⟨(), a2, _, rfl, s, nightOk_of c kd2 ok (by omega), fun v H' s5 rv => s5⟩)) (fun v H7 s9 => ?_)
  refine bs_drop (R := fun _ H => Sep (HouT p2 ({ a2 with byDay := false, files := ddrop a2.files 0 } : Hou K) :: HouT p1 (brg ({ a1 with byDay := false } : Hou K) f0) :: HouT p3 a3 :: PotT q nn :: ValT (.ref LH) (Lst.mk [Adr.mk p1, Adr.mk p2, Adr.mk p3]) :: ValT (.ref Lf) (Lst.mk fs) :: Vs) H) s9 (es_meth (ok_House_drop T) hr (fun _ _ _ _ _ _ _ _ _ => by rfl) (fun H0 s => e_ixL ix1 (E.ofOld (E.there (e_var 11) (Sep.get (T := ValT (.ref LH) (Lst.mk [Adr.mk p1, Adr.mk p2, Adr.mk p3])) 4 s))) e_int) (fun H s => ⟨_, Sep.get (T := HouT p2 ({ a2 with byDay := false } : Hou K)) 0 s⟩) (eas_pure (Rs := .cons (0 : Int) .nil) fun H0 s => ea_cons e_int ea_nil) (fun vs H ⟨x1, s10⟩ => ⟨0, ({ a2 with byDay := false } : Hou K), _, x1, s10, ⟨rfl, ⟨by decide, Int.le_trans (by omega) kd2.g.nx⟩, kd2.g.fk 0 (by decide) (by omega)⟩, fun v H' s11 rv => s11⟩)) (fun v H8 s10 => ?_)
  have u1 : HTell hands t p fs.length D d1 one row (brg ({ a1 with byDay := false } : Hou K) f0) := ⟨t1.hh, t1.ht, t1.hp, t1.dy, t1.ok, t1.rw⟩
  have u2 : HTell hands t p fs.length D d2 one row ({ a2 with byDay := false, files := ddrop a2.files 0 } : Hou K) := ⟨t2.hh, t2.ht, t2.hp, t2.dy, t2.ok, t2.rw⟩
  refine bs_if (Rb := fun k H => k = false ∧ Sep (HouT p2 ({ a2 with byDay := false, files := ddrop a2.files 0 } : Hou K) :: HouT p1 (brg ({ a1 with byDay := false } : Hou K) f0) :: HouT p3 a3 :: PotT q nn :: ValT (.ref LH) (Lst.mk [Adr.mk p1, Adr.mk p2, Adr.mk p3]) :: ValT (.ref Lf) (Lst.mk fs) :: Vs) H) s10 (ESt.weak (est_not (est_val (es_alike (ps := [Adr.mk p1, Adr.mk p2, Adr.mk p3]) (one := one) (many := many + more) (ok_law_alike T) hgu hr (fun H0 s => e_var 11) (fun H0 s => e_var 8) (fun H0 s => e_add (e_var 9) (e_var 10)) (fun H s => Sep.get (T := ValT (.ref LH) (Lst.mk [Adr.mk p1, Adr.mk p2, Adr.mk p3])) 4 s) (by show 0 < 3 ∧ 3 < 100; decide) smr smp (fun H s x hx => ?_)))) (fun k H ⟨_, _, ek, s6⟩ => ⟨by simpa using ek, s6⟩)) (fun H4 z => absurd z.1 (by decide)) (fun H4 z => b_go (hend H4 (((((z.2.drop).drop).drop).drop).drop).drop))
  simp only [List.mem_cons, List.not_mem_nil, or_false] at hx
  rcases hx with rfl | rfl | rfl
  · exact ⟨_, Sep.get (T := HouT p1 (brg ({ a1 with byDay := false } : Hou K) f0)) 1 s, askT _ d1 u1⟩
  · exact ⟨_, Sep.get (T := HouT p2 ({ a2 with byDay := false, files := ddrop a2.files 0 } : Hou K)) 0 s, askT _ d2 u2⟩
  · exact ⟨a3, Sep.get (T := HouT p3 a3) 2 s, askT a3 d3 t3⟩
end
end Lk

/-! LkK15 -/
set_option Elab.async false
set_option linter.all false
set_option maxRecDepth 100000
set_option maxHeartbeats 4000000
set_option autoImplicit false
/-! law -/
namespace Lk
open PySem PySem.Spec PyProof.Rows L2
open Ty (r)
theorem pot_of {q : Addr} {g m : Int} {C : Hp} (h : r (Lst.mk [g, m, 0]) (.ref q) C) (h0 : 0 ≤ g) (h1 : 0 ≤ m ∧ m < 2 ^ 62) : PotAt q 0 C := by
  obtain ⟨q', xs, e, e1, e2⟩ := h
  cases e
  have ex := A2.ints (l := [g, m, 0]) e2
  subst ex
  exact ⟨g, m, 0, e1, h0, h1, ⟨Int.le_refl _, Int.le_refl _⟩⟩
theorem EAS.weak {X : Cx} {G : List Slot} {es : List Expr} {Ts : List Th} {Ra Rb : List V → Hp → Prop} (h : EAS X G es Ts Ra) (k : ∀ vs H, Ra vs H → Rb vs H) : EAS X G es Ts Rb := fun σ H Q a s q => h σ H Q a s fun vs H' kt r => q vs H' kt (k vs H' r)
section
variable {P : Program} {w : World} {K : PySem.W.Frag} {mg : Str → Option Value} {base : Heap} {cdv : Value} {A : Around} {outer : List Env} {s : Shared} {H : Hp} {Ex : XK}
theorem law_cell (T : Tx K mg) (hgu : A.guards = some []) (hr : Room 16 (A.deeper (envOfC "law" (defScope s_law) s.heap.objs.size (He.fAd K ("law", none)) cdv))) {H0 : Hp} {sc : Addr} {kk : Int} {ns : List Int} {Ws : List Th} {Dd : Ends}
    (hS : Sep (ValT (.ref sc) (Scr.mk ns : Scr K) :: Ws) H0) (k0 : 0 ≤ kk ∧ kk ≤ 1)
    (hend : ∀ (q Lf LH : Addr) (hands t p one many more : Int) (wi : List (Option Int)) H1, Sep (ValT (.ref sc) (Scr.mk ns : Scr K) :: Ws) H1 → B (cxOf CX0 P w K mg base N_law "law" (defScope s_law) (He.fAd K ("law", none)) cdv A outer s H Ex).nox H1 [.im (Adr.mk sc), .im kk, .im (Adr.mk q), .im hands, .im t, .im p, .im (Adr.mk Lf), .im wi, .im one, .im many, .im more, .im (Adr.mk LH), .no, .no, .no, .no, .no, .no, .no, .no] [] Dd) : B (cxOf CX0 P w K mg base N_law "law" (defScope s_law) (He.fAd K ("law", none)) cdv A outer s H Ex).nox H0 [.im (Adr.mk sc), .im kk, .no, .no, .no, .no, .no, .no, .no, .no, .no, .no, .no, .no, .no, .no, .no, .no, .no, .no] lawB Dd := by
  obtain ⟨Vs, eV⟩ : ∃ Vs, ValT (.ref sc) (Scr.mk ns : Scr K) :: Ws = Vs := ⟨_, rfl⟩
  have hSc : ∀ {l : List Th} {H2 : Hp}, Sep (l ++ Vs) H2 → r (Scr.mk ns : Scr K) (.ref sc) H2 := fun {l H2} h => by
    rw [← eV] at h
    exact Sep.get (T := ValT (.ref sc) (Scr.mk ns : Scr K)) l.length h (by simp)
  rw [eV] at hS hend
  -- the pot
  refine bs_set 2 (R := fun v H => ∃ q : Addr, v = .ref q ∧ Sep (PotT q 0 :: Vs) H) hS (ES.weak (es_new fun H0 s => e_call (ok_law_pot T) hr (Scr.mk ns, kk) k0 (ea_cons (E.ofOld (E.there (e_var 0) (hSc (l := []) s))) (ea_cons (e_var 1) ea_nil))) (fun v H1 s1 => ?_)) (fun v H1 ⟨q, ev, s1⟩ => ⟨Adr, inferInstance, ⟨q⟩, ev, ?_⟩) sc_law.nd
  · obtain ⟨q, xs, e, _⟩ := s1.lstT
    subst e
    refine ⟨q, rfl, s1.weak fun C hC => pot_of hC (potGreat_nn _) ⟨Int.emod_nonneg _ (by decide), Int.lt_trans (Int.emod_lt_of_pos _ (by decide)) (by decide)⟩⟩
  show B _ H1 [.im (Adr.mk sc), .im kk, .im (Adr.mk q), .no, .no, .no, .no, .no, .no, .no, .no, .no, .no, .no, .no, .no, .no, .no, .no, .no] _ _
  -- how many hands
  refine bs_set 3 (R := fun v H => ∃ hands : Int, hands ∈ ([2, 3, 4] : List Int) ∧ Sep (ValT v hands :: PotT q (0 + 1) :: Vs) H) s1 (es_of (l := ([2, 3, 4] : List Int)) (n := 0) (ok_law_of T) hr (by decide) (by decide) (fun H0 s => e_var 2) (fun v H0 s => e_lst3 e_int e_int e_int) (fun H s => s)) (fun v H2 ⟨hands, hh, s2⟩ => ⟨Int, inferInstance, hands, s2.at0, ?_⟩) sc_law.nd
  have hh : hands = 2 ∨ hands = 3 ∨ hands = 4 := by simpa using hh
  have s2 := potE (m := 1) (by decide) s2.drop
  show B _ H2 [.im (Adr.mk sc), .im kk, .im (Adr.mk q), .im hands, .no, .no, .no, .no, .no, .no, .no, .no, .no, .no, .no, .no, .no, .no, .no, .no] _ _
  -- t, p
  refine bs_par (par_l 4 5 rfl sc_law.nd) s2 (eas_cons (A := Int) (φ := fun t v => v = .int t ∧ 0 ≤ t ∧ t < hands) (Fs := fun _ => PotT q (1 + 1) :: Vs) (ES.weak (es_take (q := q) (size := hands) (n := 1) (ok_law_take T) hr (by omega) (by decide) (fun H0 s => e_var 2) (fun H0 s => e_var 3) (fun H s => s)) (fun v H ⟨x, fx, s3⟩ => ⟨x, ⟨s3.at0, fx⟩, s3.drop⟩)) (fun t v hv => eas_one (es_of (l := primes) (n := 1 + 1) (ok_law_of T) hr (by decide) (by decide) (fun H0 s => e_var 2) (fun v H0 s => e_lst5 e_int e_int e_int e_int e_int) (fun H s => s)))) (fun vs H3 ⟨t, v, ws, e1, ⟨e2, t0, t1⟩, w1, e3, p, hpp, s3⟩ => ?_)
  subst e2
  refine ⟨.int t, w1, Int, Int, inferInstance, inferInstance, t, p, by rw [e1, e3], rfl, s3.at0, ?_⟩
  have c : Cfg hands t p := ⟨hh, t0, t1, hpp⟩
  have g := c.grid
  have c0 := g.c0
  have pp := c.p1
  have hll : ((lawLots hands t).length : Int) = chooseI hands t := by rw [g.lw]; omega
  have s3 := potE (m := 3) (by decide) s3.drop
  show B _ H3 [.im (Adr.mk sc), .im kk, .im (Adr.mk q), .im hands, .im t, .im p, .no, .no, .no, .no, .no, .no, .no, .no, .no, .no, .no, .no, .no, .no] _ _
  -- the files
  refine bs_set 6 (R := fun v H => ∃ (Lf : Addr) (fs : List (List Int)), v = .ref Lf ∧ (1 ≤ fs.length ∧ fs.length ≤ 3) ∧ (∀ f ∈ fs, FileOk hands t p f) ∧ Sep (ValT (.ref Lf) (Lst.mk fs) :: PotT q 1000 :: Vs) H) s3
    (es_call (ok_law_files T) hr (eas_consV (fun H0 s => e_var 2) fun v0 => eas_consV (fun H0 s => e_var 3) fun v1 => eas_consV (fun H0 s => e_var 4) fun v2 => eas_consV (fun H0 s => e_var 5) fun v3 => eas_one (es_addI (A := Int) (f := fun x => x) (y := 1) (fun H0 s => e_int) (es_take (q := q) (size := 3) (n := 3) (ok_law_take T) hr (by decide) (by decide) (fun H0 s => e_var 2) (fun H0 s => e_int) (fun H s => s.front 4)))) (fun vs H Q r k => ?_)) (fun v H4 ⟨Lf, fs, ev, l3, lf, s4⟩ => ⟨Adr, inferInstance, ⟨Lf⟩, ev, ?_⟩) sc_law.nd
  · obtain ⟨v0, w0, rfl, v1, w1, rfl, v2, w2, rfl, v3, w3, rfl, v4, rfl, x, fx, s8⟩ := r
    have e4 : v4 = .int (1 + x) := s8.at0
    have e3 : v3 = .int p := Sep.get (T := ValT v3 p) 2 s8
    have e2 : v2 = .int t := Sep.get (T := ValT v2 t) 3 s8
    have e1 : v1 = .int hands := Sep.get (T := ValT v1 hands) 4 s8
    have e0 : v0 = .ref q := Sep.get (T := ValT v0 (Adr.mk q)) 5 s8
    subst e0 e1 e2 e3 e4
    have s9 := ((((s8.drop).del 1).del 1).del 1).del 1
    have hx3 : 0 ≤ x ∧ x < 3 := fx
    refine ⟨q, 3 + 1, hands, t, p, 1 + x, _, rfl, s9, g.ll, by omega, by omega, by omega, by decide, fun fs v H' k1 k2 k3 s10 => ?_⟩
    obtain ⟨Lf, xs, ev, _⟩ := s10.lstT
    subst ev
    refine k _ H' k1 ⟨Lf, fs, rfl, ⟨by omega, by omega⟩, fun f hf => ⟨by rw [(k3 f hf).1]; exact hll, (k3 f hf).2⟩, ?_⟩
    have : (1 + x) * ((lawLots hands t).length : Int) ≤ 3 * 100 := Int.mul_le_mul (by omega) (by omega) (by omega) (by omega)
    exact Sep.swap (potUp (by omega) s10.swap)
  show B _ H4 [.im (Adr.mk sc), .im kk, .im (Adr.mk q), .im hands, .im t, .im p, .im (Adr.mk Lf), .no, .no, .no, .no, .no, .no, .no, .no, .no, .no, .no, .no, .no] _ _
  -- the wishes
  have s4' : Sep (PotT q (1000 + ((0 : Nat) : Int)) :: ValT (.ref Lf) (Lst.mk fs) :: Vs) H4 := potE (by decide) s4.swap
  refine bs_set 7 (R := fun v H => ∃ wi : List (Option Int), WsOk hands fs.length wi ∧ Sep (ValT v wi :: PotT q 1004 :: ValT (.ref Lf) (Lst.mk fs) :: Vs) H) s4' (ES.weak (es_tupL (A := List (Option Int)) (f := fun wi => wi) (φ := fun wi => WsOk hands fs.length wi) (Fs := fun _ => AnyT :: PotT q (1000 + (((rng 0 hands.toNat).length : Nat) : Int)) :: ValT (.ref Lf) (Lst.mk fs) :: Vs) T.m_tuple (ES.weak (es_lc (α := Option Int) (l := rng 0 hands.toNat) (fun _ o => o ∈ wList fs.length ++ [none, some 0]) (fun i => PotT q (1000 + (i : Int)) :: ValT (.ref Lf) (Lst.mk fs) :: Vs) [("_law_one", 8)] sc_law.nd (eis_rng1 T.m_range (fun H0 s => e_var 3) (by omega)) (by rw [rng_len]; omega) (fun s H C cl fp => tgt_name 8 sc_law.nd) (fun s0 H0 C cl fp T1 U i x hx => ?_)) (fun v H ⟨as, k1, k2, k3⟩ => ⟨as, ?_, k3⟩))) (fun v H ⟨wi, fw, sw⟩ => ⟨wi, fw, ?_⟩)) (fun v H5 ⟨wi, wo, s5⟩ => ⟨_, inferInstance, wi, s5.at0, ?_⟩) sc_law.nd
  · have hi : (i : Int) < 4 := by
      have := (List.getElem?_eq_some_iff.mp hx).1
      rw [rng_len] at this
      omega
    refine ES.weak (es_of (l := wList fs.length ++ [none, some 0]) (n := 1000 + (i : Int)) (ok_law_of T) hr (by rw [List.length_append, wList_len]; show 0 < fs.length + 2 ∧ fs.length + 2 < 1000000; omega) (by omega) (fun H0 s => e_var 2) (fun v H0 s => e_catL (l := wList fs.length) (m := [none, some 0]) ?_ (E.optL (E.val (e_listRg rfl T.m_list T.m_range (e_lenL (l := fs) T.m_len (E.ofOld (E.there (e_var 6) (Sep.get (T := ValT (.ref Lf) (Lst.mk fs)) 2 s)))) ?_))) (E.val (e_lst2 e_non (show E _ _ _ _ (Val (some (0 : Int))) from e_int (i := 0))))) (fun H s => s)) (fun v H ⟨x, k1, k2⟩ => ⟨x, k1, Sep.swap (potE (by rw [Int.natCast_succ]; omega) k2.swap)⟩)
    · rw [wList_len]; show fs.length + 2 < 1000000; omega
    · omega
  · refine wsOk_of l3 (by rw [k1, rng_len]; omega) (more := [none, some 0]) (fun o ho => by simpa using ho) fun a ha => ?_
    obtain ⟨j, hj⟩ := List.getElem?_of_mem ha
    exact k2 j a hj
  · have s6 : Sep (PotT q (1000 + (((rng 0 hands.toNat).length : Nat) : Int)) :: ValT v wi :: ValT (.ref Lf) (Lst.mk fs) :: Vs) H := (sw.del 1).swap
    exact Sep.swap (potUp (m := 1004) (by rw [rng_len]; omega) s6)
  have s5 := s5.drop
  have cell := c.cell wo
  have m0 := cell.m0
  show B _ H5 [.im (Adr.mk sc), .im kk, .im (Adr.mk q), .im hands, .im t, .im p, .im (Adr.mk Lf), .im wi, .no, .no, .no, .no, .no, .no, .no, .no, .no, .no, .no, .no] _ _
  -- how many are made
  have em : (((lawMade t wi).length : Nat) : Int) = madeI t wi := by rw [cell.lw]; omega
  refine b_set 9 (x := madeI t wi) (by rw [← em]; exact e_lenL (l := lawMade t wi) T.m_len (E.val (e_call (ok_law_made T) hr (t, wi) cell.lm (ea_cons (e_var 4) (ea_cons (e_var 7) ea_nil))))) ?_ sc_law.nd
  show B _ H5 [.im (Adr.mk sc), .im kk, .im (Adr.mk q), .im hands, .im t, .im p, .im (Adr.mk Lf), .im wi, .no, .im (madeI t wi), .no, .no, .no, .no, .no, .no, .no, .no, .no, .no] _ _
  -- how many more
  refine bs_set 10 (R := fun v H => ∃ more : Int, (0 ≤ more ∧ more < 3) ∧ (more = 0 ∨ madeI t wi + more ≤ p) ∧ Sep (ValT v more :: PotT q (1004 + 1) :: ValT (.ref Lf) (Lst.mk fs) :: Vs) H) s5 (ES.weak (es_minI (A := Int) (f := fun x => x) (x := if p - madeI t wi > 0 then p - madeI t wi else 0) (Fs := fun _ => PotT q (1004 + 1) :: ValT (.ref Lf) (Lst.mk fs) :: Vs) rfl T.m_min (fun H0 s => e_max (p1 := ⟨0, 0, 0, 0⟩) rfl T.m_max e_int (e_sub (e_var 5) (e_var 9))) (es_take (q := q) (size := 3) (n := 1004) (ok_law_take T) hr (by decide) (by decide) (fun H0 s => e_var 2) (fun H0 s => e_int) (fun H s => s))) (fun v H ⟨y, fy, sy⟩ => ⟨_, ?_, ?_, sy⟩)) (fun v H6 ⟨more, ms, mp, s6⟩ => ⟨Int, inferInstance, more, s6.at0, ?_⟩) sc_law.nd
  · split <;> split <;> omega
  · split <;> split <;> omega
  have s6 := s6.drop
  show B _ H6 [.im (Adr.mk sc), .im kk, .im (Adr.mk q), .im hands, .im t, .im p, .im (Adr.mk Lf), .im wi, .no, .im (madeI t wi), .im more, .no, .no, .no, .no, .no, .no, .no, .no, .no] _ _
  -- the houses
  refine bs_set 11 (R := fun v H => ∃ (LH p1 p2 p3 : Addr) (h3 : Hou K), v = .ref LH ∧ HX hands t p fs h3 ∧ h3.away.length ≤ 1 ∧ Sep (ValT (.ref LH) (Lst.mk [Adr.mk p1, Adr.mk p2, Adr.mk p3]) :: HouT p3 h3 :: PotT q (1005 + 1000) :: ValT (.ref Lf) (Lst.mk fs) :: HouT p2 (hou0 K hands t p) :: HouT p1 (hou0 K hands t p) :: Vs) H) s6
    (ES.weak (es_lstA (A := Addr × Addr × Addr × Hou K) (α := Adr) (φ := fun x => HX hands t p fs x.2.2.2 ∧ x.2.2.2.away.length ≤ 1) (f := fun x => [Adr.mk x.1, Adr.mk x.2.1, Adr.mk x.2.2.1]) (Fs := fun x => HouT x.2.2.1 x.2.2.2 :: PotT q (1005 + 1000) :: ValT (.ref Lf) (Lst.mk fs) :: HouT x.2.1 (hou0 K hands t p) :: HouT x.1 (hou0 K hands t p) :: Vs)
      (EAS.weak (eas_cons (A := Addr) (φ := fun p1 v => v = .ref p1) (Fs := fun p1 => HouT p1 (hou0 K hands t p) :: PotT q 1005 :: ValT (.ref Lf) (Lst.mk fs) :: Vs) (ES.weak (es_new fun H0 s => e_house T rfl rfl hr (by decide) (by omega) (by omega) (by omega) c.pr (e_var 3) (e_var 4) (e_var 5)) (fun v H1 ⟨Hc, h1, ⟨p3, e3, hat⟩, h3⟩ => ⟨p3, e3, Hc, h1, hat, h3⟩))
        (fun p1 v hv => eas_cons (A := Addr) (φ := fun p2 v => v = .ref p2) (Fs := fun p2 => HouT p2 (hou0 K hands t p) :: HouT p1 (hou0 K hands t p) :: PotT q 1005 :: ValT (.ref Lf) (Lst.mk fs) :: Vs) (ES.weak (es_new fun H0 s => e_house T rfl rfl hr (by decide) (by omega) (by omega) (by omega) c.pr (e_var 3) (e_var 4) (e_var 5)) (fun v H1 ⟨Hc, h1, ⟨p3, e3, hat⟩, h3⟩ => ⟨p3, e3, Hc, h1, hat, h3⟩))
        (fun p2 v2 hv2 => eas_one (R := fun v H => ∃ (p3 : Addr) (h3 : Hou K), v = .ref p3 ∧ HX hands t p fs h3 ∧ h3.away.length ≤ 1 ∧ Sep (HouT p3 h3 :: PotT q (1005 + 1000) :: ValT (.ref Lf) (Lst.mk fs) :: HouT p2 (hou0 K hands t p) :: HouT p1 (hou0 K hands t p) :: Vs) H) (es_call (ok_law_third T) hr (eas_pure (Rs := .cons (Adr.mk q) (.cons hands (.cons t (.cons p (.cons (Adr.mk Lf) .nil))))) fun H0 s => ea_cons (e_var 2) (ea_cons (e_var 3) (ea_cons (e_var 4) (ea_cons (e_var 5) (ea_cons (e_var 6) ea_nil))))) (fun vs H Q r k => ?_)))))
        (fun vs H r => ?_))) (fun v H ⟨x, fx, sx⟩ => ?_)) (fun v H7 ⟨LH, p1, p2, p3, h3, ev, hx3, aw3, s7⟩ => ⟨Adr, inferInstance, ⟨LH⟩, ev, ?_⟩) sc_law.nd
  · obtain ⟨⟨u0, r0, e0, q0, u1, r1, e1, q1, u2, r2, e2, q2, u3, r3, e3, q3, u4, r4, e4, q4, e5⟩, s7⟩ := r
    have q0 : u0 = .ref q := q0
    have q1 : u1 = .int hands := q1
    have q2 : u2 = .int t := q2
    have q3 : u3 = .int p := q3
    have q4 : u4 = .ref Lf := q4
    have e5 : r4 = [] := e5
    subst q0 q1 q2 q3 q4 e5 e4 e3 e2 e1 e0
    have s8 : Sep (PotT q 1005 :: ValT (.ref Lf) (Lst.mk fs) :: HouT p2 (hou0 K hands t p) :: HouT p1 (hou0 K hands t p) :: Vs) H := (s7.front 3).front 3
    exact ⟨q, Lf, 1005, hands, t, p, fs, _, rfl, s8, c, l3, lf, by decide, fun p3 h3 H' k1 k2 k3 s9 => k _ H' k1 ⟨p3, h3, rfl, k2, k3, s9⟩⟩
  · obtain ⟨p1, v1, w1, e1, q1, p2, v2, w2, e2, q2, v3, e3, p3, h3, q3, hx3, aw3, s7⟩ := r
    subst q1 q2 q3
    exact ⟨(p1, p2, p3, h3), ⟨hx3, aw3⟩, by rw [e1, e2, e3]; exact .cons rfl (.cons rfl (.cons rfl .nil)), by rw [e1, e2, e3]; show 3 < 1000; decide, s7⟩
  · obtain ⟨LH, xs, ev, _⟩ := sx.lstT
    subst ev
    exact ⟨LH, x.1, x.2.1, x.2.2.1, x.2.2.2, rfl, fx.1, fx.2, sx⟩
  show B _ H7 [.im (Adr.mk sc), .im kk, .im (Adr.mk q), .im hands, .im t, .im p, .im (Adr.mk Lf), .im wi, .no, .im (madeI t wi), .im more, .im (Adr.mk LH), .no, .no, .no, .no, .no, .no, .no, .no] _ _
  -- the hand
  refine bs_set 8 (R := fun v H => ∃ one : Int, (0 ≤ one ∧ one < hands) ∧ Sep (ValT v one :: PotT q (1005 + 1000 + 1) :: ValT (.ref LH) (Lst.mk [Adr.mk p1, Adr.mk p2, Adr.mk p3]) :: HouT p3 h3 :: ValT (.ref Lf) (Lst.mk fs) :: HouT p2 (hou0 K hands t p) :: HouT p1 (hou0 K hands t p) :: Vs) H) s7 (es_take (q := q) (size := hands) (n := 1005 + 1000) (ok_law_take T) hr (by omega) (by decide) (fun H0 s => e_var 2) (fun H0 s => e_var 3) (fun H s => s.front 2)) (fun v H8 ⟨one, ho, s8⟩ => ⟨Int, inferInstance, one, s8.at0, ?_⟩) sc_law.nd
  have s9 : Sep (HouT p1 (hou0 K hands t p) :: HouT p2 (hou0 K hands t p) :: HouT p3 h3 :: PotT q (1005 + 1000 + 1) :: ValT (.ref LH) (Lst.mk [Adr.mk p1, Adr.mk p2, Adr.mk p3]) :: ValT (.ref Lf) (Lst.mk fs) :: Vs) H8 := (((((s8.drop.front 3).front 2).front 2).front 3).front 4).front 5
  exact law_rest T hgu hr s9 c l3 lf wo rfl ms mp hx3 aw3 ho.1 ho.2 (by decide) fun H9 s10 => hend q Lf LH hands t p one (madeI t wi) more wi H9 s10
end
def spLaw (K : PySem.W.Frag) : Sp := fun vs H Q _ => ∃ (a : Addr) (ns : List Int), vs = [.ref a] ∧ SqL K H a (ns.map V.int) ∧ ∀ H', Q (.bl true) H'
section
variable {P : Program} {w : World} {K : PySem.W.Frag} {mg : Str → Option Value} {base : Heap}
theorem ok_law (T : Tx K mg) {fd : FuncData} (F : FunD K "law" "law" (defArgs s_law) (defBody s_law) (defScope s_law) [] [] (He.fAd K ("law", none)) fd) : FnG P w K mg base 17 (He.fAd K ("law", none)) fd ["_law_script"] (spLaw K) := by
  refine fnG_of F sc_law (fun vs H Q Ex ⟨_, _, e, _⟩ => by rw [e]; rfl) (fun cdv A outer s H vs Q Ex gu hr ⟨a, ns, e, hs, hq⟩ => ?_)
  subst e
  refine pss_out (PSs.nox pss_in) ?_
  suffices hB : B (cxOf CX0 P w K mg base N_law "law" (defScope s_law) (He.fAd K ("law", none)) cdv A outer s H Ex).nox H [.im (Adr.mk a), .no, .no, .no, .no, .no, .no, .no, .no, .no, .no, .no, .no, .no, .no, .no, .no, .no, .no, .no] (defBody s_law) { nx := fun _ H' => Q .non H', rt := Q } from
    hB _ H (ent_at (R := .cons (Adr.mk a) .nil) (gs := [.im (Adr.mk a)]) (n := 19) (ent_im ent_nil) (by rfl) ⟨_, _, rfl, rfl, rfl⟩)
  have hS : Sep [ValT (.ref a) (Scr.mk ns : Scr K)] H := ⟨fun _ => none, fun _ _ e => (nomatch e), ⟨a, rfl, hs⟩, trivial⟩
  refine bs_for (l := rng 0 (1 + (if (ns.length : Int) < 1 then (ns.length : Int) else 1)).toNat) (Gs := fun _ => [.im (Adr.mk a), .no, .no, .no, .no, .no, .no, .no, .no, .no, .no, .no, .no, .no, .no, .no, .no, .no, .no, .no]) (gs := fun _ => inferInstance) (T0 := AnyT) (Us := [ValT (.ref a) (Scr.mk ns : Scr K)]) (Ss := fun _ Us => Us = [ValT (.ref a) (Scr.mk ns : Scr K)]) hS (eis_rng1 T.m_range (fun H0 s => e_add e_int (e_min (p1 := ⟨0, 0, 0, 0⟩) rfl T.m_min e_int (e_lenS (s := Scr.mk ns) T.m_len (E.ofOld (E.there (e_var 0) (Sep.get (T := ValT (.ref a) (Scr.mk ns : Scr K)) 0 s)))))) (by split <;> omega)) (tgt_name 1 sc_law.nd) (Sub.refl _) rfl (fun T1 i x H1 Us hx eU s1 => ?_) (fun H1 Us eU s1 => ?_) nox_own
  · subst eU
    obtain ⟨x0, x1⟩ := rng_mem (List.mem_of_getElem? hx)
    have x2 : x ≤ 1 := by
      split at x1 <;> omega
    refine law_cell T gu hr (Ws := [T1]) s1.swap ⟨x0, x2⟩ fun q Lf LH hands t p one many more wi H2 s2 => ?_
    exact bs_fin s2.swap rfl (Sub.of [1, 2, 3, 4, 5, 6, 7, 8, 9, 10, 11])
  · exact b_retQ (e_bl (i := true)) fun H2 v H3 s2 s3 rv => by
      have rv : v = .bl true := rv
      subst rv
      exact hq H3
end
end Lk

/-! LkK16 -/
set_option Elab.async false
set_option linter.all false
set_option maxRecDepth 100000
set_option maxHeartbeats 4000000
set_option autoImplicit false
/-! The end: law called behind the top. -/
namespace Lk
open PySem PySem.Spec PyProof.Rows L2
open Ty (r)
section
variable {P : Program} {w : World} {K : PySem.W.Frag} {mg mb : Str → Option Value} {sc fa : Addr} {st : Shared} {vs : List Value} {ns : List Int}
/-- the script stands at sc; what is tracked is the script or nothing -/
structure Behind (K : PySem.W.Frag) (mg mb : Str → Option Value) (st : Shared) (sc : Addr) (vs : List Value) (ns : List Int) : Prop where
  kx : K.In st.heap
  gl : st.heap.Ns mainGlobals mg
  bu : st.heap.Ns builtinsNs mb
  bb : ∀ x : Str, x ≠ "__name__" → mb x = bootBuiltins x
  li : st.heap.NoLimit
  ge : st.gens = #[]
  at_ : st.heap.get? sc = some { cls := .type "list", data := .seq vs.toArray }
  iv : IntsAre vs ns
  ln : ns.length ≤ sizeLine
structure Trk (P : Program) (w : World) (K : PySem.W.Frag) (st : Shared) (sc : Addr) (ns : List Int) (H : Hp) : Prop where
  on : Only H
  sq : SqL K H sc (ns.map V.int)
  ok : HOk P w H st.heap
  me : ∀ b, H b ≠ none → b = sc
  nk : H sc ≠ none → K.lookup sc = none
theorem Behind.env (B : Behind K mg mb st sc vs ns) {H : Hp} (t : Trk P w K st sc ns H) : K.In (hidT st.heap H) ∧ (hidT st.heap H).Ns mainGlobals mg ∧ Env0 P w K mg (hidT st.heap H) callerA [] st H := by
  have untracked : ∀ {b : Addr} {o : Obj} {es : Array DictEntry} {ep : Nat}, st.heap.get? b = some o → o.data = .dict es ep → H b = none := fun {b o es ep} there isd => by
    by_cases z : H b = none
    · exact z
    · have hb := t.me b z
      subst hb
      rw [B.at_] at there
      cases there
      exact absurd (show Data.seq vs.toArray _ = Data.dict es ep from isd) (fun q => nomatch q)
  have shown : ∀ {b : Addr} {m : Str → Option Value}, st.heap.Ns b m → (hidT st.heap H).Ns b m := fun {b m} ⟨o, es, ep, there, isd, more⟩ => ⟨o, es, ep, hidT_get there (untracked there isd), isd, more⟩
  have inK : K.In (hidT st.heap H) := fun b o written => hidT_get (B.kx b o written) (by
    by_cases z : H b = none
    · exact z
    · have hb := t.me b z
      subst hb
      rw [t.nk z] at written
      cases written)
  obtain ⟨ml, l1, l2⟩ := B.li
  exact ⟨inK, shown B.gl, rfl, ⟨inK, shown B.gl, ⟨mb, shown B.bu, B.bb⟩, ⟨ml, shown l1, l2⟩⟩, fun b o there => of_hidT there, Nat.le_of_eq (hidT_size _ _), trivial, fun b z => absurd (show b ∈ ([] : List Addr) from z) (by simp), t.ok, .of_eq B.ge⟩
theorem Behind.run {k : Nat} {fd : FuncData} {x : Str} {sp : Sp} (B : Behind K mg mb st sc vs ns) {H : Hp} (t : Trk P w K st sc ns H) (room : Room k callerA) (F : ∀ base : Heap, FnG P w K mg base k fa fd [x] sp) (bind : ∀ (s : Shared) (u : Value), BindsTo s fd ⟨[u], []⟩ [(x, u)])
    (want : sp [.ref sc] H (fun v _ => v = .bl true) fun _ _ _ => False) : codeAny (model P w) callerA (.call (.ref fa) ⟨[.ref sc], []⟩) (fun res st2 => res = .ok (.ret (.bool true)) ∧ OldK st.heap st2.heap ∧ st2.os = st.os ∧ AllBare st2.gens) st := by
  obtain ⟨_, _, env⟩ := B.env t
  refine codeAny_mono ((F (hidT st.heap H)).go callerA [] st H ⟨[.ref sc], []⟩ [.ref sc] [.ref sc] _ _ rfl room env (bind st (.ref sc)) (.cons rfl .nil) want) fun res st2 got => ?_
  match res, got with
  | .error _, got => exact (show False from got).elim
  | .ok .next, got => exact (show False from got).elim
  | .ok .brk, got => exact (show False from got).elim
  | .ok .cont, got => exact (show False from got).elim
  | .ok (.ret u), ⟨v, H2, os2, bare2, un, ok2, rv, isT⟩ =>
    have isT : v = .bl true := isT
    subst isT
    have rv : u = Value.bool true := rv
    subst rv
    refine ⟨rfl, OldK.of_keep fun b o there => ?_, os2, bare2⟩
    rcases t.on b with none_ | ⟨ob, xs, frz_⟩
    · exact un.keep b o there none_ (fun z => absurd (show b ∈ ([] : List Addr) from z) (by simp)) (by simp)
    · have was := (t.ok b _ frz_).1
      rw [there] at was
      cases was
      exact (ok2 b _ (un.frzs b _ _ frz_)).1
theorem Behind.trk (B : Behind K mg mb st sc vs ns) : ∃ H, Trk P w K st sc ns H := by
  have vals := vals_ints B.iv
  have lv : vs.length = ns.length := B.iv.length
  cases own : K.lookup sc with
  | some o =>
    have there := B.kx sc o own
    rw [B.at_] at there
    cases there
    exact ⟨fun _ => none, fun _ => .inl rfl, .inr ⟨_, vs.toArray, _, own, rfl, rfl, rfl, by rw [List.size_toArray, lv]; exact B.ln, by simpa using vals⟩, fun b u z => absurd (show (none : Option HO) = some u from z) (fun q => nomatch q), fun b z => absurd rfl z, fun z => absurd rfl z⟩
  | none =>
    obtain ⟨H, hH⟩ : ∃ H : Hp, H = upd (fun _ => none) sc (.frz { cls := .type "list", data := .seq vs.toArray } (.lst (ns.map V.int))) := ⟨_, rfl⟩
    have at1 : H sc = some (.frz { cls := .type "list", data := .seq vs.toArray } (.lst (ns.map V.int))) := by rw [hH]; exact upd_same
    have at2 : ∀ b, b ≠ sc → H b = none := fun b nb => by rw [hH]; exact upd_ne nb
    refine ⟨H, fun b => ?_, .inl (.inr ⟨_, at1⟩), fun b u z => ?_, fun b z => ?_, fun _ => own⟩
    · by_cases hb : b = sc
      · subst hb; exact .inr ⟨_, _, at1⟩
      · exact .inl (at2 b hb)
    · by_cases hb : b = sc
      · subst hb
        rw [at1] at z
        cases z
        exact ⟨B.at_, by rw [List.length_map]; exact B.ln, vs, _, vals, B.at_⟩
      · rw [at2 b hb] at z
        cases z
    · by_cases hb : b = sc
      · exact hb
      · exact absurd (at2 b hb) z
end
theorem tx_of {K : PySem.W.Frag} {mg : Str → Option Value} {h : Heap} (KX : K.In h) (G : h.Ns mainGlobals mg) (c : He.SaysD fa fn K) : Tx K mg := ⟨c, h, KX, G⟩
theorem law_binds {K : PySem.W.Frag} {f : Addr} {fd : FuncData} (F : FunD K "law" "law" (defArgs s_law) (defBody s_law) (defScope s_law) [] [] f fd) : ∀ (s : Shared) (u : Value), BindsTo s fd ⟨[u], []⟩ [("_law_script", u)] := fun s u =>
  FunD.bindsA (ps := ["_law_script"]) F (fun _ _ _ _ _ _ us hl => match us, hl with | [_], _ => rfl) s [u] rfl
end Lk

/-! LkK17 -/
set_option Elab.async false
set_option linter.all false
open PySem PySem.W PySem.Calls PyProof.Rows
set_option maxRecDepth 100000 in
set_option maxHeartbeats 0 in
theorem PySem.Challenge.cw_lackcry_k95_whole_what_one_hears_alone_holds : PySem.Challenge.rw_lackcry_k95_whole_what_one_hears_alone.Holds := by
  w_on; o_law
  refine HandSHeadRun.head_any (r := OpenLaw.row PySem.Challenge.rw_lackcry_k95_whole_what_one_hears_alone) (q := view (OpenLaw.row PySem.Challenge.rw_lackcry_k95_whole_what_one_hears_alone).prog [87]) (H := Lk.hk) (ob := Lk.ob) (M := 12000) (loose := Lk.loose) (d := HandSHeadRun.topDef (OpenLaw.row PySem.Challenge.rw_lackcry_k95_whole_what_one_hears_alone).prog 87) (kwd := []) Lk.ob_eq
    (by kernel_rfl) (fun s => by kernel_rfl) Lk.run (by kernel_rfl) (by kernel_rfl) (by kernel_rfl) (by rfl) (by first | assumption | decide +kernel) (by decide +kernel) ⟨rfl, rfl, rfl, rfl, rfl, by decide +kernel⟩ ?hw ?hc
  case hw => w_witness2
  case hc =>
    refine Att.attach_call (l := PySem.Challenge.rw_lackcry_k95_whole_what_one_hears_alone) (n := 63) rfl (by kernel_rfl) fun w s₀ s₁ mg mb fa o pm cd doc a vs ns G Y ho hd hcd hmg0 hobj hints hlen hg => ?_
    obtain ⟨K, KX, c⟩ := Y
    have hmg : mg ("law" : PySem.Str) = some (.ref fa) := by
      have e : (HandSHeadRun.topDef (OpenLaw.row PySem.Challenge.rw_lackcry_k95_whole_what_one_hears_alone).prog 87).name = ("law" : PySem.Str) := by kernel_rfl
      rw [← e]
      exact hmg0
    have T := Lk.tx_of KX G.T.g c
    obtain ⟨fd, F⟩ := T.f_law
    have e := hmg.symm.trans T.g_law
    cases e
    have Bh : Lk.Behind K mg mb s₁ a vs ns := ⟨KX, G.T.g, G.T.b, G.T.builtins, G.T.nolimit, hg, hobj, hints, Nat.le_trans hlen (by decide)⟩
    obtain ⟨H, t⟩ := Bh.trk (P := PySem.Challenge.rw_lackcry_k95_whole_what_one_hears_alone.prog) (w := w)
    exact Bh.run (k := 17) t ⟨rfl, by decide, by decide⟩ (fun base => Lk.ok_law T F) (Lk.law_binds F) ⟨a, ns, rfl, t.sq, fun _ => rfl⟩
