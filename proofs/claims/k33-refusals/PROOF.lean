import PyProof.Rows.All
import HandS.Words
import HandS.HeadHook4
import HandS.HeadWalk
import PySem.Challenge.RW_pairmart_k33_each_refusal_apart
import HandS.Head0
import HandS.Head1
import HandS.Head2
import KE.KStateDown
import Wide.All
import OpenK.AllK
import HandS.AnyAll
import HandS.GenBody
import HandS.GenList
import PyProof.SumAny
import HandS.Lambda
import HandS.TupAny
import KE.GoesMore
import HandS.Iter
import HandS.Flow
import HandS.Conv
import HandS.More
import HandS.WordsDict
import HandS.Style
import HandS.ExcOwn
import HandS.Defaults
import HandS.StrMore
import HandS.Text
import HandS.HeadHook2
import HandS.ForDict
import HandS.ReplaceLit
import HandS.TryMany
import Lean
set_option Elab.async false
set_option linter.all false
set_option maxRecDepth 100000
set_option maxHeartbeats 2000000
namespace K33
open PySem PySem.Spec PyProof.Rows L2
def top (i : Nat) : Stmt := PySem.Challenge.rw_pairmart_k33_each_refusal_apart.prog.main.body.getD i (.Pass ⟨0, 0, 0, 0⟩)
def cnm : Nat → Str
  | 0 => "MarketFault"
  | 1 => "BadWish"
  | 2 => "BadRoom"
  | 3 => "BadMatch"
  | 4 => "BadPaper"
  | 5 => "BadSize"
  | 6 => "BadText"
  | 7 => "BadStore"
  | 8 => "NoSuch"
  | 9 => "BadDeed"
  | 10 => "Wish"
  | 11 => "Market"
  | 12 => "Fair"
  | 13 => "Friends"
  | 14 => "Deed"
  | 15 => "Book"
  | 16 => "Links"
  | 17 => "Part"
  | 18 => "Pipes"
  | 19 => "Wants"
  | 20 => "Keeper"
  | 21 => "Votes"
  | 22 => "Table"
  | 23 => "Deals"
  | 24 => "Tied"
  | 25 => "Strong"
  | 26 => "Search"
  | _ => ""
def d_x_check_list : He.DefD := ⟨("check_list", none), "check_list", "check_list", defArgs (top 14), defBody (top 14), defScope (top 14), [], []⟩
def d_x_check_groups : He.DefD := ⟨("check_groups", none), "check_groups", "check_groups", defArgs (top 15), defBody (top 15), defScope (top 15), [], []⟩
def d_x_broken : He.DefD := ⟨("broken", none), "broken", "broken", defArgs (top 16), defBody (top 16), defScope (top 16), [], []⟩
def d_x_group_ranks : He.DefD := ⟨("group_ranks", none), "group_ranks", "group_ranks", defArgs (top 17), defBody (top 17), defScope (top 17), [], []⟩
def d_x_all_lists : He.DefD := ⟨("all_lists", none), "all_lists", "all_lists", defArgs (top 18), defBody (top 18), defScope (top 18), [], []⟩
def d_x_Market_size : He.DefD := ⟨("Market", some "size"), "size", "Market.size", defArgs (L2.inClass (top 20) 1), defBody (L2.inClass (top 20) 1), defScope (L2.inClass (top 20) 1), [], []⟩
def d_x_check_match : He.DefD := ⟨("check_match", none), "check_match", "check_match", defArgs (top 21), defBody (top 21), defScope (top 21), [], []⟩
def d_x_those_in : He.DefD := ⟨("those_in", none), "those_in", "those_in", defArgs (top 22), defBody (top 22), defScope (top 22), [], []⟩
def d_x_unwanted : He.DefD := ⟨("unwanted", none), "unwanted", "unwanted", defArgs (top 23), defBody (top 23), defScope (top 23), [], []⟩
def d_x_Wish_has : He.DefD := ⟨("Wish", some "has"), "has", "Wish.has", defArgs (L2.inClass (top 13) 1), defBody (L2.inClass (top 13) 1), defScope (L2.inClass (top 13) 1), [], []⟩
def d_x_would_take : He.DefD := ⟨("would_take", none), "would_take", "would_take", defArgs (top 24), defBody (top 24), defScope (top 24), [], []⟩
def d_x_Wish_rank : He.DefD := ⟨("Wish", some "rank"), "rank", "Wish.rank", defArgs (L2.inClass (top 13) 2), defBody (L2.inClass (top 13) 2), defScope (L2.inClass (top 13) 2), [], []⟩
def d_x_Wish_ahead_of : He.DefD := ⟨("Wish", some "ahead_of"), "ahead_of", "Wish.ahead_of", defArgs (L2.inClass (top 13) 4), defBody (L2.inClass (top 13) 4), defScope (L2.inClass (top 13) 4), [], []⟩
def d_x_blocks : He.DefD := ⟨("blocks", none), "blocks", "blocks", defArgs (top 25), defBody (top 25), defScope (top 25), [], []⟩
def d_x_is_stable : He.DefD := ⟨("is_stable", none), "is_stable", "is_stable", defArgs (top 26), defBody (top 26), defScope (top 26), [], []⟩
def d_x_check_words : He.DefD := ⟨("check_words", none), "check_words", "check_words", defArgs (top 28), defBody (top 28), defScope (top 28), [], []⟩
def d_x_parts : He.DefD := ⟨("parts", none), "parts", "parts", defArgs (top 32), defBody (top 32), defScope (top 32), [], []⟩
def d_x_Friends_without : He.DefD := ⟨("Friends", some "without"), "without", "Friends.without", defArgs (L2.inClass (top 31) 1), defBody (L2.inClass (top 31) 1), defScope (L2.inClass (top 31) 1), [], []⟩
def d_x_odd_parts : He.DefD := ⟨("odd_parts", none), "odd_parts", "odd_parts", defArgs (top 33), defBody (top 33), defScope (top 33), [], []⟩
def d_x_check_mates : He.DefD := ⟨("check_mates", none), "check_mates", "check_mates", defArgs (top 34), defBody (top 34), defScope (top 34), [], []⟩
def d_x_is_word : He.DefD := ⟨("is_word", none), "is_word", "is_word", defArgs (top 40), defBody (top 40), defScope (top 40), [], []⟩
def d_x_words_of : He.DefD := ⟨("words_of", none), "words_of", "words_of", defArgs (top 42), defBody (top 42), defScope (top 42), [], []⟩
def d_x_all_words : He.DefD := ⟨("all_words", none), "all_words", "all_words", defArgs (top 43), defBody (top 43), defScope (top 43), [], []⟩
def d_x_read_row : He.DefD := ⟨("read_row", none), "read_row", "read_row", defArgs (top 44), defBody (top 44), defScope (top 44), [], []⟩
def d_x_Fair_init : He.DefD := ⟨("Fair", some "__init__"), "__init__", "Fair.__init__", defArgs (L2.inClass (top 29) 0), defBody (L2.inClass (top 29) 0), defScope (L2.inClass (top 29) 0), [], []⟩
def d_x_read : He.DefD := ⟨("read", none), "read", "read", defArgs (top 45), defBody (top 45), defScope (top 45), [], []⟩
def d_x_read_groups : He.DefD := ⟨("read_groups", none), "read_groups", "read_groups", defArgs (top 46), defBody (top 46), defScope (top 46), [], []⟩
def d_x_Deed_init : He.DefD := ⟨("Deed", some "__init__"), "__init__", "Deed.__init__", defArgs (L2.inClass (top 51) 0), defBody (L2.inClass (top 51) 0), defScope (L2.inClass (top 51) 0), [.adr (He.dflAt ("Deed", some "__init__") 0), .non], []⟩
def d_x_read_deed : He.DefD := ⟨("read_deed", none), "read_deed", "read_deed", defArgs (top 52), defBody (top 52), defScope (top 52), [], []⟩
def d_x_check_pairs : He.DefD := ⟨("check_pairs", none), "check_pairs", "check_pairs", defArgs (top 57), defBody (top 57), defScope (top 57), [], []⟩
def d_x_check_short : He.DefD := ⟨("check_short", none), "check_short", "check_short", defArgs (top 58), defBody (top 58), defScope (top 58), [], []⟩
def d_x_check_square : He.DefD := ⟨("check_square", none), "check_square", "check_square", defArgs (top 61), defBody (top 61), defScope (top 61), [], []⟩
def d_x_parted : He.DefD := ⟨("parted", none), "parted", "parted", defArgs (top 62), defBody (top 62), defScope (top 62), [], []⟩
def d_x_drawn : He.DefD := ⟨("drawn", none), "drawn", "drawn", defArgs (top 63), defBody (top 63), defScope (top 63), [], []⟩
def d_x_Wants_linked : He.DefD := ⟨("Wants", some "linked"), "linked", "Wants.linked", defArgs (L2.inClass (top 69) 1), defBody (L2.inClass (top 69) 1), defScope (L2.inClass (top 69) 1), [], []⟩
def d_x_check_cut : He.DefD := ⟨("check_cut", none), "check_cut", "check_cut", defArgs (top 70), defBody (top 70), defScope (top 70), [], []⟩
def d_x_check_rows : He.DefD := ⟨("check_rows", none), "check_rows", "check_rows", defArgs (top 72), defBody (top 72), defScope (top 72), [], []⟩
def d_x_lists_of_lot : He.DefD := ⟨("lists_of_lot", none), "lists_of_lot", "lists_of_lot", defArgs (top 76), defBody (top 76), defScope (top 76), [], []⟩
def d_x_Votes_init : He.DefD := ⟨("Votes", some "__init__"), "__init__", "Votes.__init__", defArgs (L2.inClass (top 78) 0), defBody (L2.inClass (top 78) 0), defScope (L2.inClass (top 78) 0), [], []⟩
def d_x_Votes_second : He.DefD := ⟨("Votes", some "second"), "second", "Votes.second", defArgs (L2.inClass (top 78) 2), defBody (L2.inClass (top 78) 2), defScope (L2.inClass (top 78) 2), [], []⟩
def d_x_Votes_first : He.DefD := ⟨("Votes", some "first"), "first", "Votes.first", defArgs (L2.inClass (top 78) 1), defBody (L2.inClass (top 78) 1), defScope (L2.inClass (top 78) 1), [], []⟩
def d_x_Votes_choices : He.DefD := ⟨("Votes", some "choices"), "choices", "Votes.choices", defArgs (L2.inClass (top 78) 3), defBody (L2.inClass (top 78) 3), defScope (L2.inClass (top 78) 3), [], []⟩
def d_x_check_lot : He.DefD := ⟨("check_lot", none), "check_lot", "check_lot", defArgs (top 79), defBody (top 79), defScope (top 79), [], []⟩
def d_x_Wish_init : He.DefD := ⟨("Wish", some "__init__"), "__init__", "Wish.__init__", defArgs (L2.inClass (top 13) 0), defBody (L2.inClass (top 13) 0), defScope (L2.inClass (top 13) 0), [], []⟩
def d_x_Table_init : He.DefD := ⟨("Table", some "__init__"), "__init__", "Table.__init__", defArgs (L2.inClass (top 81) 0), defBody (L2.inClass (top 81) 0), defScope (L2.inClass (top 81) 0), [], []⟩
def d_x_search : He.DefD := ⟨("search", none), "search", "search", defArgs (top 82), defBody (top 82), defScope (top 82), [], []⟩
def d_x_pair_off : He.DefD := ⟨("pair_off", none), "pair_off", "pair_off", defArgs (top 83), defBody (top 83), defScope (top 83), [], []⟩
def d_x_Table_cut_behind : He.DefD := ⟨("Table", some "cut_behind"), "cut_behind", "Table.cut_behind", defArgs (L2.inClass (top 81) 2), defBody (L2.inClass (top 81) 2), defScope (L2.inClass (top 81) 2), [], []⟩
def d_x_check_ask : He.DefD := ⟨("check_ask", none), "check_ask", "check_ask", defArgs (top 85), defBody (top 85), defScope (top 85), [], []⟩
def d_x_check_steps : He.DefD := ⟨("check_steps", none), "check_steps", "check_steps", defArgs (top 84), defBody (top 84), defScope (top 84), [], []⟩
def d_x_Market_pairs : He.DefD := ⟨("Market", some "pairs"), "pairs", "Market.pairs", defArgs (L2.inClass (top 20) 3), defBody (L2.inClass (top 20) 3), defScope (L2.inClass (top 20) 3), [], []⟩
def d_x_Wish_better : He.DefD := ⟨("Wish", some "better"), "better", "Wish.better", defArgs (L2.inClass (top 13) 3), defBody (L2.inClass (top 13) 3), defScope (L2.inClass (top 13) 3), [], []⟩
def d_x_why_not : He.DefD := ⟨("why_not", none), "why_not", "why_not", defArgs (top 89), defBody (top 89), defScope (top 89), [], []⟩
def d_x_stable_paper : He.DefD := ⟨("stable_paper", none), "stable_paper", "stable_paper", defArgs (top 88), defBody (top 88), defScope (top 88), [], []⟩
def d_x_check_best : He.DefD := ⟨("check_best", none), "check_best", "check_best", defArgs (top 90), defBody (top 90), defScope (top 90), [], []⟩
def d_x_Tied_likes : He.DefD := ⟨("Tied", some "likes"), "likes", "Tied.likes", defArgs (L2.inClass (top 95) 1), defBody (L2.inClass (top 95) 1), defScope (L2.inClass (top 95) 1), [], []⟩
def d_x_Strong_init : He.DefD := ⟨("Strong", some "__init__"), "__init__", "Strong.__init__", defArgs (L2.inClass (top 96) 0), defBody (L2.inClass (top 96) 0), defScope (L2.inClass (top 96) 0), [], []⟩
def d_x_Strong_holds : He.DefD := ⟨("Strong", some "holds"), "holds", "Strong.holds", defArgs (L2.inClass (top 96) 2), defBody (L2.inClass (top 96) 2), defScope (L2.inClass (top 96) 2), [], []⟩
def d_x_Strong_still_asking : He.DefD := ⟨("Strong", some "still_asking"), "still_asking", "Strong.still_asking", defArgs (L2.inClass (top 96) 5), defBody (L2.inClass (top 96) 5), defScope (L2.inClass (top 96) 5), [], []⟩
def d_x_Strong_ask : He.DefD := ⟨("Strong", some "ask"), "ask", "Strong.ask", defArgs (L2.inClass (top 96) 3), defBody (L2.inClass (top 96) 3), defScope (L2.inClass (top 96) 3), [], []⟩
def d_x_Strong_go_on : He.DefD := ⟨("Strong", some "go_on"), "go_on", "Strong.go_on", defArgs (L2.inClass (top 96) 4), defBody (L2.inClass (top 96) 4), defScope (L2.inClass (top 96) 4), [], []⟩
def d_x_check_none : He.DefD := ⟨("check_none", none), "check_none", "check_none", defArgs (top 97), defBody (top 97), defScope (top 97), [], []⟩
def d_x_must_be_stable : He.DefD := ⟨("must_be_stable", none), "must_be_stable", "must_be_stable", defArgs (top 100), defBody (top 100), defScope (top 100), [], []⟩
def d_x_better_of : He.DefD := ⟨("better_of", none), "better_of", "better_of", defArgs (top 99), defBody (top 99), defScope (top 99), [], []⟩
def d_x_check_worths : He.DefD := ⟨("check_worths", none), "check_worths", "check_worths", defArgs (top 102), defBody (top 102), defScope (top 102), [], []⟩
def d_x_Search_init : He.DefD := ⟨("Search", some "__init__"), "__init__", "Search.__init__", defArgs (L2.inClass (top 103) 0), defBody (L2.inClass (top 103) 0), defScope (L2.inClass (top 103) 0), [], []⟩
def d_x_best_pairs : He.DefD := ⟨("best_pairs", none), "best_pairs", "best_pairs", defArgs (top 104), defBody (top 104), defScope (top 104), [], []⟩
def d_x_check_worth : He.DefD := ⟨("check_worth", none), "check_worth", "check_worth", defArgs (top 106), defBody (top 106), defScope (top 106), [], []⟩
def d_x_Market_init : He.DefD := ⟨("Market", some "__init__"), "__init__", "Market.__init__", defArgs (L2.inClass (top 20) 0), defBody (L2.inClass (top 20) 0), defScope (L2.inClass (top 20) 0), [], []⟩
def d_x_Market_shown : He.DefD := ⟨("Market", some "shown"), "shown", "Market.shown", defArgs (L2.inClass (top 20) 7), defBody (L2.inClass (top 20) 7), defScope (L2.inClass (top 20) 7), [], []⟩
def d_x_Fair_likes : He.DefD := ⟨("Fair", some "likes"), "likes", "Fair.likes", defArgs (L2.inClass (top 29) 1), defBody (L2.inClass (top 29) 1), defScope (L2.inClass (top 29) 1), [], []⟩
def d_x_Fair_those_in : He.DefD := ⟨("Fair", some "those_in"), "those_in", "Fair.those_in", defArgs (L2.inClass (top 29) 2), defBody (L2.inClass (top 29) 2), defScope (L2.inClass (top 29) 2), [], []⟩
def d_x_Fair_match : He.DefD := ⟨("Fair", some "match"), "match", "Fair.match", defArgs (L2.inClass (top 29) 3), defBody (L2.inClass (top 29) 3), defScope (L2.inClass (top 29) 3), [], []⟩
def d_x_Fair_ask : He.DefD := ⟨("Fair", some "ask"), "ask", "Fair.ask", defArgs (L2.inClass (top 29) 4), defBody (L2.inClass (top 29) 4), defScope (L2.inClass (top 29) 4), [], []⟩
def d_x_Fair_who_waits : He.DefD := ⟨("Fair", some "who_waits"), "who_waits", "Fair.who_waits", defArgs (L2.inClass (top 29) 5), defBody (L2.inClass (top 29) 5), defScope (L2.inClass (top 29) 5), [], []⟩
def d_x_Fair_go_on : He.DefD := ⟨("Fair", some "go_on"), "go_on", "Fair.go_on", defArgs (L2.inClass (top 29) 6), defBody (L2.inClass (top 29) 6), defScope (L2.inClass (top 29) 6), [], []⟩
def d_x_Fair_part_of : He.DefD := ⟨("Fair", some "part_of"), "part_of", "Fair.part_of", defArgs (L2.inClass (top 29) 7), defBody (L2.inClass (top 29) 7), defScope (L2.inClass (top 29) 7), [], []⟩
def d_x_Fair_ask_anew : He.DefD := ⟨("Fair", some "ask_anew"), "ask_anew", "Fair.ask_anew", defArgs (L2.inClass (top 29) 8), defBody (L2.inClass (top 29) 8), defScope (L2.inClass (top 29) 8), [], []⟩
def d_x_Fair_told : He.DefD := ⟨("Fair", some "told"), "told", "Fair.told", defArgs (L2.inClass (top 29) 9), defBody (L2.inClass (top 29) 9), defScope (L2.inClass (top 29) 9), [], []⟩
def d_x_Fair_come : He.DefD := ⟨("Fair", some "come"), "come", "Fair.come", defArgs (L2.inClass (top 29) 10), defBody (L2.inClass (top 29) 10), defScope (L2.inClass (top 29) 10), [], []⟩
def d_x_Fair_leave : He.DefD := ⟨("Fair", some "leave"), "leave", "Fair.leave", defArgs (L2.inClass (top 29) 11), defBody (L2.inClass (top 29) 11), defScope (L2.inClass (top 29) 11), [], []⟩
def d_x_Fair_set_room : He.DefD := ⟨("Fair", some "set_room"), "set_room", "Fair.set_room", defArgs (L2.inClass (top 29) 14), defBody (L2.inClass (top 29) 14), defScope (L2.inClass (top 29) 14), [], []⟩
def d_x_Fair_open_room : He.DefD := ⟨("Fair", some "open_room"), "open_room", "Fair.open_room", defArgs (L2.inClass (top 29) 13), defBody (L2.inClass (top 29) 13), defScope (L2.inClass (top 29) 13), [], []⟩
def d_x_Fair_shut_room : He.DefD := ⟨("Fair", some "shut_room"), "shut_room", "Fair.shut_room", defArgs (L2.inClass (top 29) 15), defBody (L2.inClass (top 29) 15), defScope (L2.inClass (top 29) 15), [], []⟩
def d_x_Fair_change_room : He.DefD := ⟨("Fair", some "change_room"), "change_room", "Fair.change_room", defArgs (L2.inClass (top 29) 16), defBody (L2.inClass (top 29) 16), defScope (L2.inClass (top 29) 16), [], []⟩
def d_x_Fair_names : He.DefD := ⟨("Fair", some "names"), "names", "Fair.names", defArgs (L2.inClass (top 29) 17), defBody (L2.inClass (top 29) 17), defScope (L2.inClass (top 29) 17), [], []⟩
def d_x_Friends_init : He.DefD := ⟨("Friends", some "__init__"), "__init__", "Friends.__init__", defArgs (L2.inClass (top 31) 0), defBody (L2.inClass (top 31) 0), defScope (L2.inClass (top 31) 0), [], []⟩
def d_x_Deed_do : He.DefD := ⟨("Deed", some "do"), "do", "Deed.do", defArgs (L2.inClass (top 51) 3), defBody (L2.inClass (top 51) 3), defScope (L2.inClass (top 51) 3), [], []⟩
def d_x_Book_init : He.DefD := ⟨("Book", some "__init__"), "__init__", "Book.__init__", defArgs (L2.inClass (top 53) 0), defBody (L2.inClass (top 53) 0), defScope (L2.inClass (top 53) 0), [], []⟩
def d_x_Book_do : He.DefD := ⟨("Book", some "do"), "do", "Book.do", defArgs (L2.inClass (top 53) 1), defBody (L2.inClass (top 53) 1), defScope (L2.inClass (top 53) 1), [], []⟩
def d_x_Links_init : He.DefD := ⟨("Links", some "__init__"), "__init__", "Links.__init__", defArgs (L2.inClass (top 55) 0), defBody (L2.inClass (top 55) 0), defScope (L2.inClass (top 55) 0), [], []⟩
def d_x_Part_init : He.DefD := ⟨("Part", some "__init__"), "__init__", "Part.__init__", defArgs (L2.inClass (top 66) 0), defBody (L2.inClass (top 66) 0), defScope (L2.inClass (top 66) 0), [], []⟩
def d_x_Pipes_init : He.DefD := ⟨("Pipes", some "__init__"), "__init__", "Pipes.__init__", defArgs (L2.inClass (top 68) 0), defBody (L2.inClass (top 68) 0), defScope (L2.inClass (top 68) 0), [], []⟩
def d_x_Pipes_lay : He.DefD := ⟨("Pipes", some "lay"), "lay", "Pipes.lay", defArgs (L2.inClass (top 68) 1), defBody (L2.inClass (top 68) 1), defScope (L2.inClass (top 68) 1), [], []⟩
def d_x_Wants_init : He.DefD := ⟨("Wants", some "__init__"), "__init__", "Wants.__init__", defArgs (L2.inClass (top 69) 0), defBody (L2.inClass (top 69) 0), defScope (L2.inClass (top 69) 0), [], []⟩
def d_x_Keeper_init : He.DefD := ⟨("Keeper", some "__init__"), "__init__", "Keeper.__init__", defArgs (L2.inClass (top 74) 0), defBody (L2.inClass (top 74) 0), defScope (L2.inClass (top 74) 0), [], []⟩
def d_x_Deals_check : He.DefD := ⟨("Deals", some "check"), "check", "Deals.check", defArgs (L2.inClass (top 93) 1), defBody (L2.inClass (top 93) 1), defScope (L2.inClass (top 93) 1), [], []⟩
def d_x_Deals_init : He.DefD := ⟨("Deals", some "__init__"), "__init__", "Deals.__init__", defArgs (L2.inClass (top 93) 0), defBody (L2.inClass (top 93) 0), defScope (L2.inClass (top 93) 0), [], []⟩
def d_x_Tied_init : He.DefD := ⟨("Tied", some "__init__"), "__init__", "Tied.__init__", defArgs (L2.inClass (top 95) 0), defBody (L2.inClass (top 95) 0), defScope (L2.inClass (top 95) 0), [], []⟩
def d_x_law_dice : He.DefD := ⟨("_law_dice", none), "_law_dice", "_law_dice", defArgs (top 108), defBody (top 108), defScope (top 108), [], []⟩
def d_x_law_roll : He.DefD := ⟨("_law_roll", none), "_law_roll", "_law_roll", defArgs (top 109), defBody (top 109), defScope (top 109), [], []⟩
def d_x_law_rounds : He.DefD := ⟨("_law_rounds", none), "_law_rounds", "_law_rounds", defArgs (top 110), defBody (top 110), defScope (top 110), [], []⟩
def d_x_law_told : He.DefD := ⟨("_law_told", none), "_law_told", "_law_told", defArgs (top 111), defBody (top 111), defScope (top 111), [], []⟩
def d_x_law_tries : He.DefD := ⟨("_law_tries", none), "_law_tries", "_law_tries", defArgs (top 112), defBody (top 112), defScope (top 112), [], []⟩
def d_x_law : He.DefD := ⟨("law", none), "law", "law", defArgs (top 113), defBody (top 113), defScope (top 113), [], []⟩
def fn0 : List He.DefD := [d_x_check_list, d_x_check_groups, d_x_broken, d_x_group_ranks, d_x_all_lists, d_x_Market_size, d_x_check_match, d_x_those_in, d_x_unwanted, d_x_Wish_has, d_x_would_take, d_x_Wish_rank, d_x_Wish_ahead_of, d_x_blocks, d_x_is_stable, d_x_check_words, d_x_parts, d_x_Friends_without, d_x_odd_parts, d_x_check_mates, d_x_is_word, d_x_words_of, d_x_all_words, d_x_read_row, d_x_Fair_init]
def fn1 : List He.DefD := [d_x_read, d_x_read_groups, d_x_Deed_init, d_x_read_deed, d_x_check_pairs, d_x_check_short, d_x_check_square, d_x_parted, d_x_drawn, d_x_Wants_linked, d_x_check_cut, d_x_check_rows, d_x_lists_of_lot, d_x_Votes_init, d_x_Votes_second, d_x_Votes_first, d_x_Votes_choices, d_x_check_lot, d_x_Wish_init, d_x_Table_init, d_x_search, d_x_pair_off, d_x_Table_cut_behind, d_x_check_ask, d_x_check_steps]
def fn2 : List He.DefD := [d_x_Market_pairs, d_x_Wish_better, d_x_why_not, d_x_stable_paper, d_x_check_best, d_x_Tied_likes, d_x_Strong_init, d_x_Strong_holds, d_x_Strong_still_asking, d_x_Strong_ask, d_x_Strong_go_on, d_x_check_none, d_x_must_be_stable, d_x_better_of, d_x_check_worths, d_x_Search_init, d_x_best_pairs, d_x_check_worth, d_x_Market_init, d_x_Market_shown, d_x_Fair_likes, d_x_Fair_those_in, d_x_Fair_match, d_x_Fair_ask, d_x_Fair_who_waits]
def fn3 : List He.DefD := [d_x_Fair_go_on, d_x_Fair_part_of, d_x_Fair_ask_anew, d_x_Fair_told, d_x_Fair_come, d_x_Fair_leave, d_x_Fair_set_room, d_x_Fair_open_room, d_x_Fair_shut_room, d_x_Fair_change_room, d_x_Fair_names, d_x_Friends_init, d_x_Deed_do, d_x_Book_init, d_x_Book_do, d_x_Links_init, d_x_Part_init, d_x_Pipes_init, d_x_Pipes_lay, d_x_Wants_init, d_x_Keeper_init, d_x_Deals_check, d_x_Deals_init, d_x_Tied_init, d_x_law_dice]
def fn4 : List He.DefD := [d_x_law_roll, d_x_law_rounds, d_x_law_told, d_x_law_tries, d_x_law]
def fn : List He.DefD := fn0 ++ fn1 ++ fn2 ++ fn3 ++ fn4
def fa0 : List He.Fa := [.free "tuple", .free "dict", .free "len", .exc "BadWish", .glo "BadWish", .free "any", .free "sorted", .glo "check_list", .free "enumerate", .exc "BadSize", .glo "BadSize", .cls "Market", .noat "Market" "askers", .meth "Market" "size", .noat "Market" "rooms", .exc "BadMatch", .glo "BadMatch", .noat "Market" "seats", .cls "Wish", .noat "Wish" "ranks", .meth "Wish" "has", .glo "those_in", .noat "Wish" "order", .meth "Wish" "rank", .meth "Wish" "ahead_of"]
def fa1 : List He.Fa := [.glo "would_take", .glo "check_match", .glo "unwanted", .glo "blocks", .cls "Friends", .noat "Friends" "count", .free "range", .noat "Friends" "near", .meth "Friends" "without", .glo "parts", .glo "odd_parts", .exc "BadPaper", .glo "BadPaper", .str "SMALL" "abcdefghijklmnopqrstuvwxyz", .str "INNER" "abcdefghijklmnopqrstuvwxyz0123456789_", .glo "is_word", .glo "words_of", .exc "BadText", .glo "BadText", .cls "Fair", .noat "Fair" "lists", .noat "Fair" "orders", .noat "Fair" "seats", .noat "Fair" "held", .noat "Fair" "next"]
def fa2 : List He.Fa := [.noat "Fair" "asks", .mkr "Fair", .glo "Fair", .glo "read_row", .cls "Deed", .noat "Deed" "kind", .noat "Deed" "who", .noat "Deed" "words", .noat "Deed" "count", .glo "all_words", .mkr "Deed", .glo "Deed", .cls "Links", .noat "Links" "rows", .glo "check_square", .cls "Wants", .noat "Wants" "lists", .noat "Wants" "rooms", .noat "Wants" "askers", .free "sum", .meth "Wants" "linked", .cls "Votes", .noat "Votes" "lists", .noat "Votes" "things", .noat "Votes" "firsts"]
def fa3 : List He.Fa := [.mkr "Votes", .glo "Votes", .meth "Votes" "second", .meth "Votes" "first", .meth "Votes" "choices", .mkr "Wish", .glo "Wish", .cls "Table", .noat "Table" "full", .noat "Table" "left", .noat "Table" "steps", .mkr "Table", .glo "Table", .glo "search", .meth "Table" "cut_behind", .glo "check_ask", .meth "Market" "pairs", .meth "Wish" "better", .glo "why_not", .cls "Strong", .noat "Strong" "tied", .cls "Tied", .noat "Tied" "lists", .noat "Tied" "ranks", .meth "Tied" "likes"]
def fa4 : List He.Fa := [.noat "Strong" "left", .noat "Tied" "orders", .noat "Strong" "inside", .noat "Strong" "asked", .noat "Strong" "gone", .mkr "Strong", .glo "Strong", .meth "Strong" "holds", .meth "Strong" "still_asking", .meth "Strong" "ask", .meth "Strong" "go_on", .glo "is_stable", .glo "must_be_stable", .glo "check_worths", .mkr "Search", .glo "Search", .exc "BadRoom", .glo "BadRoom", .meth "Fair" "likes", .meth "Fair" "those_in", .meth "Fair" "who_waits", .meth "Fair" "ask", .meth "Fair" "go_on", .free "list", .exc "BadDeed"]
def fa5 : List He.Fa := [.glo "BadDeed", .glo "check_words", .meth "Fair" "told", .exc "NoSuch", .glo "NoSuch", .meth "Fair" "set_room", .meth "Fair" "part_of", .meth "Fair" "ask_anew", .meth "Fair" "leave", .cls "Book", .noat "Book" "fair", .noat "Book" "text", .noat "Book" "many", .glo "read_deed", .meth "Deed" "do", .noat "Links" "many", .cls "Pipes", .noat "Pipes" "places", .noat "Pipes" "room", .noat "Pipes" "going", .cls "Keeper", .noat "Keeper" "listed", .noat "Keeper" "seats", .noat "Keeper" "keeps", .cls "Deals"]
def fa6 : List He.Fa := [.noat "Deals" "contracts", .noat "Deals" "lists", .noat "Deals" "orders", .noat "Deals" "seats", .meth "Deals" "check", .glo "check_groups", .glo "group_ranks", .free "abs", .free "int", .glo "_law_dice", .glo "broken", .glo "all_lists", .mkr "Market", .glo "Market", .glo "stable_paper", .glo "check_best", .glo "better_of", .glo "lists_of_lot", .mkr "Tied", .glo "Tied", .glo "check_none", .mkr "Links", .glo "Links", .glo "check_pairs", .glo "check_short"]
def fa7 : List He.Fa := [.glo "check_worth", .glo "best_pairs", .mkr "Friends", .glo "Friends", .glo "check_mates", .glo "pair_off", .glo "check_steps", .mkr "Part", .glo "Part", .glo "parted", .glo "drawn", .glo "check_rows", .mkr "Pipes", .glo "Pipes", .meth "Pipes" "lay", .mkr "Wants", .glo "Wants", .glo "check_cut", .mkr "Keeper", .glo "Keeper", .mkr "Deals", .glo "Deals", .glo "check_lot", .meth "Fair" "come", .meth "Fair" "open_room"]
def fa8 : List He.Fa := [.meth "Fair" "change_room", .meth "Fair" "shut_room", .glo "read", .glo "read_groups", .meth "Book" "do", .glo "_law_roll", .glo "_law_rounds", .glo "_law_told", .glo "_law_tries", .glo "law", .glo "BadStore", .exm "BadWish" "BadWish" true, .exm "BadRoom" "BadWish" false, .exm "BadRoom" "BadRoom" true, .exm "BadMatch" "BadWish" false, .exm "BadMatch" "BadRoom" false, .exm "BadMatch" "BadMatch" true, .exm "BadPaper" "BadWish" false, .exm "BadPaper" "BadRoom" false, .exm "BadPaper" "BadMatch" false, .exm "BadPaper" "BadPaper" true, .exm "BadSize" "BadWish" false, .exm "BadSize" "BadRoom" false, .exm "BadSize" "BadMatch" false, .exm "BadSize" "BadPaper" false]
def fa9 : List He.Fa := [.exm "BadSize" "BadSize" true, .exm "BadText" "BadWish" false, .exm "BadText" "BadRoom" false, .exm "BadText" "BadMatch" false, .exm "BadText" "BadPaper" false, .exm "BadText" "BadSize" false, .exm "BadText" "BadText" true, .exm "NoSuch" "BadWish" false, .exm "NoSuch" "BadRoom" false, .exm "NoSuch" "BadMatch" false, .exm "NoSuch" "BadPaper" false, .exm "NoSuch" "BadSize" false, .exm "NoSuch" "BadText" false, .exm "NoSuch" "BadStore" false, .exm "NoSuch" "NoSuch" true, .exm "BadDeed" "BadWish" false, .exm "BadDeed" "BadRoom" false, .exm "BadDeed" "BadMatch" false, .exm "BadDeed" "BadPaper" false, .exm "BadDeed" "BadSize" false, .exm "BadDeed" "BadText" false, .exm "BadDeed" "BadStore" false, .exm "BadDeed" "NoSuch" false, .exm "BadDeed" "BadDeed" true, .meth "Fair" "match"]
def fa10 : List He.Fa := [.meth "Fair" "names", .meth "Market" "shown", .mkr "Book", .glo "Book"]
def faA : List He.Fa := fa0 ++ fa1 ++ fa2 ++ fa3 ++ fa4 ++ fa5
def faB : List He.Fa := fa6 ++ fa7 ++ fa8 ++ fa9 ++ fa10
def fa : List He.Fa := faA ++ faB
def tf : List He.Defn := [("check_list", none), ("check_groups", none), ("broken", none), ("check_match", none), ("check_mates", none), ("words_of", none), ("all_words", none), ("check_pairs", none), ("check_short", none), ("check_square", none), ("check_cut", none), ("Wants", some "linked"), ("check_rows", none), ("check_lot", none), ("Table", some "__init__"), ("check_best", none), ("Strong", some "holds"), ("check_worths", none), ("check_worth", none), ("Market", some "__init__"), ("Links", some "__init__"), ("Wants", some "__init__"), ("Keeper", some "__init__"), ("Deals", some "check"), ("_law_tries", none)]
end K33
namespace K33
open PySem PySem.Spec PyProof.Rows L2
/-- the defs whose tables are in the common list: all but check_rows (its code objects have tables of their own) and _law_tries -/
def rowsAt : He.Defn := ("check_rows", none)
def triesAt : He.Defn := ("_law_tries", none)
def tfg : List He.Defn := tf.take 12 ++ (tf.drop 13).take 11
def tbs (K : PySem.W.Frag) : List Addr := tfg.map fun p => (He.cT K p).2
/-- the tables of check_rows and of _law_tries are no others' -/
def dist (K : PySem.W.Frag) : Bool := (!(tbs K).contains (He.cT K rowsAt).2) && ((!(tbs K).contains (He.cT K triesAt).2) && !((He.cT K rowsAt).2 == (He.cT K triesAt).2))
theorem dist_ok {K : PySem.W.Frag} (h : dist K = true) : (He.cT K rowsAt).2 ∉ tbs K ∧ (He.cT K triesAt).2 ∉ tbs K ∧ (He.cT K rowsAt).2 ≠ (He.cT K triesAt).2 := by
  unfold dist at h
  simp only [Bool.and_eq_true, Bool.not_eq_true', beq_eq_false_iff_ne] at h
  obtain ⟨h1, h2, h3⟩ := h
  refine ⟨fun z => ?_, fun z => ?_, h3⟩
  · rw [List.contains_iff_mem.mpr z] at h1; cases h1
  · rw [List.contains_iff_mem.mpr z] at h2; cases h2
end K33
set_option maxHeartbeats 0
namespace K33
open PySem PySem.Spec PyProof.Rows L2
/-! ## the head's facts: which objects are looked at -/
def refsC (o : Obj) : List Addr := match o.data with
  | .dict es _ => es.toList.flatMap fun e => He.refV e.val
  | .func fd => He.refV fd.code ++ He.refV fd.defaults
  | .cls cd => [cd.ns]
  | _ => []
def nextC (get : Addr → Option Obj) (l : List Addr) : List Addr := l.flatMap fun a => ((get a).map refsC).getD []
def reachC (get : Addr → Option Obj) : List Addr :=
  let l1 := nextC get [mainGlobals]
  let l2 := nextC get l1
  let l3 := nextC get l2
  let l4 := nextC get l3
  [mainGlobals] ++ (l1 ++ (l2 ++ (l3 ++ l4)))
def obsC (fa : List He.Fa) (fn : List He.DefD) (tf : List He.Defn) (ex : PySem.W.Frag → Bool) (get : Addr → Option Obj) : He.AlX :=
  (He.obsT fa fn [] (He.frT get (reachC get)), ex (He.frT get (reachC get)) && He.tabsB get tf (He.frT get (reachC get)))
theorem saysC_of {fa : List He.Fa} {fn : List He.DefD} {tf : List He.Defn} {ex : PySem.W.Frag → Bool} {w : World} {h : Heap} (e : obsC fa fn tf ex h.get? = He.valX fn [] w) : He.SaysX fa fn [] tf ex w h (He.frT h.get? (reachC h.get?)) := by
  have e1 := congrArg Prod.fst e
  have e2 := congrArg Prod.snd e
  have e2' : (ex (He.frT h.get? (reachC h.get?)) && He.tabsB h.get? tf (He.frT h.get? (reachC h.get?))) = true := e2
  obtain ⟨e4, e3⟩ := He.ba e2'
  have each : ∀ p ∈ tf, PySem.W.codeHdIn (He.frT h.get? (reachC h.get?)) (He.cT (He.frT h.get? (reachC h.get?)) p).1 (He.cT (He.frT h.get? (reachC h.get?)) p).2 = true ∧ ∃ o, h.get? (He.cT (He.frT h.get? (reachC h.get?)) p).2 = some o ∧ He.emptyTab o = true := by
    intro p hp
    obtain ⟨z1, z2⟩ := He.ba (List.all_eq_true.mp e3 p hp)
    refine ⟨z1, ?_⟩
    generalize hq : h.get? (He.cT (He.frT h.get? (reachC h.get?)) p).2 = q at z2
    cases q with
    | none => cases z2
    | some o => exact ⟨o, rfl, z2⟩
  refine ⟨e1, e4, fun p hp => (each p hp).1, fun p hp => ?_, fun p hp => ?_⟩
  · obtain ⟨_, o, a, b⟩ := each p hp
    exact He.frT_none a b
  · obtain ⟨_, o, a, b⟩ := each p hp
    rw [a, He.emptyTab_eq b]
def hookC (fa : List He.Fa) (fn : List He.DefD) (tf : List He.Defn) (ex : PySem.W.Frag → Bool) : PySem.W.Hook where
  α := He.AlX
  obs := fun s => obsC fa fn tf ex s.heap.get?
  val := fun w => He.valX fn [] w
  says := fun w h => ∃ K : PySem.W.Frag, K.In h ∧ He.SaysX fa fn [] tf ex w h K
  of := fun _ _ e => ⟨_, He.frT_in, saysC_of e⟩
  keeps := fun w h h' q k => by
    obtain ⟨K, hK, c⟩ := q
    exact ⟨K, PySem.W.Frag.In.keeps hK k, ⟨c.t, c.more, c.hd, c.out, fun p hp => k _ _ (c.empty p hp)⟩⟩
def obG (fa : List He.Fa) (fn : List He.DefD) (tf : List He.Defn) (ex : PySem.W.Frag → Bool) (s : PySem.W.SharedT) : He.AlX := obsC fa fn tf ex (HandSHeadRun.getT s)
theorem obG_eq {fa : List He.Fa} {fn : List He.DefD} {tf : List He.Defn} {ex : PySem.W.Frag → Bool} (s : PySem.W.SharedT) : obG fa fn tf ex s = (hookC fa fn tf ex).obs s.abs := by
  have e : HandSHeadRun.getT s = s.abs.heap.get? := funext (HandSHeadRun.getT_eq s)
  unfold obG
  rw [e]
  rfl
theorem obsC_join {f1 f2 f3 : List He.Fa} {fs gs : List He.DefD} {ts : List He.Defn} {ex : PySem.W.Frag → Bool} {get : Addr → Option Obj} {w : World} (h1 : obsC f1 [] [] (fun _ => true) get = He.valX [] [] w) (h2 : obsC f2 [] [] (fun _ => true) get = He.valX [] [] w) (h3 : obsC [] fs [] (fun _ => true) get = He.valX fs [] w)
    (h4 : obsC [] gs [] (fun _ => true) get = He.valX gs [] w) (h5 : obsC f3 [] ts ex get = He.valX [] [] w) : obsC (f1 ++ (f2 ++ f3)) (fs ++ gs) ts ex get = He.valX (fs ++ gs) [] w := by
  have a1 : (f1.all fun f => f.ok (He.frT get (reachC get))) = true := (He.ba (congrArg (fun z : He.AlX => z.1.1.1) h1)).1
  have a2 : (f2.all fun f => f.ok (He.frT get (reachC get))) = true := (He.ba (congrArg (fun z : He.AlX => z.1.1.1) h2)).1
  have a0 : (f3.all fun f => f.ok (He.frT get (reachC get))) = true := (He.ba (congrArg (fun z : He.AlX => z.1.1.1) h5)).1
  have a3 : (fs.all fun d => d.ok (He.frT get (reachC get))) = true := congrArg (fun z : He.AlX => z.1.1.1) h3
  have b3 : (gs.all fun d => d.ok (He.frT get (reachC get))) = true := congrArg (fun z : He.AlX => z.1.1.1) h4
  have a4 : fs.map (fun d => He.fnW (He.frT get (reachC get)) d.at_) = fs.map He.DefD.val := congrArg (fun z : He.AlX => z.1.1.2) h3
  have b4 : gs.map (fun d => He.fnW (He.frT get (reachC get)) d.at_) = gs.map He.DefD.val := congrArg (fun z : He.AlX => z.1.1.2) h4
  have a5 := congrArg (fun z : He.AlX => z.2) h5
  have e1 : (((f1 ++ (f2 ++ f3)).all fun f => f.ok (He.frT get (reachC get))) && (fs ++ gs).all fun d => d.ok (He.frT get (reachC get))) = true := by
    rw [List.all_append, List.all_append, List.all_append, a0, a1, a2, a3, b3]; rfl
  have e2 : (fs ++ gs).map (fun d => He.fnW (He.frT get (reachC get)) d.at_) = (fs ++ gs).map He.DefD.val := by
    rw [List.map_append, List.map_append, a4, b4]
  exact Prod.ext (Prod.ext (Prod.ext e1 e2) rfl) a5
theorem run_join {r : PySem.W.OpenRow} {q : Program} {M : Nat} {loose : List PySem.Str} {w : World} {f1 f2 f3 : List He.Fa} {fs gs : List He.DefD} {ts : List He.Defn} {ex : PySem.W.Frag → Bool} (h1 : HandSHeadRun.RunEq r q (hookC f1 [] [] fun _ => true) (obG f1 [] [] fun _ => true) M loose w)
    (h2 : HandSHeadRun.RunEq r q (hookC f2 [] [] fun _ => true) (obG f2 [] [] fun _ => true) M loose w) (h3 : HandSHeadRun.RunEq r q (hookC [] fs [] fun _ => true) (obG [] fs [] fun _ => true) M loose w) (h4 : HandSHeadRun.RunEq r q (hookC [] gs [] fun _ => true) (obG [] gs [] fun _ => true) M loose w)
    (h5 : HandSHeadRun.RunEq r q (hookC f3 [] ts ex) (obG f3 [] ts ex) M loose w) : HandSHeadRun.RunEq r q (hookC (f1 ++ (f2 ++ f3)) (fs ++ gs) ts ex) (obG (f1 ++ (f2 ++ f3)) (fs ++ gs) ts ex) M loose w := by
  intro os
  have h1 := h1 os
  have h2 := h2 os
  have h3 := h3 os
  have h4 := h4 os
  have h5 := h5 os
  generalize HandSHeadRun.endF (HandSHeadRun.stepQ (HandSHeadRun.denQ HandSHeadRun.tabQ) r.prog w) M r.prog w os = z at h1 h2 h3 h4 h5 ⊢
  cases z with
  | none => cases h1
  | some s =>
    have e1 := Option.some.inj h1
    have e2 := Option.some.inj h2
    have e3 := Option.some.inj h3
    have e4 := Option.some.inj h4
    have e5 := Option.some.inj h5
    have k1 := congrArg (fun z => z.1) e1
    have k2 := congrArg (fun z => z.2.1) e1
    have q := obsC_join (congrArg (fun z => z.2.2) e1) (congrArg (fun z => z.2.2) e2) (congrArg (fun z => z.2.2) e3) (congrArg (fun z => z.2.2) e4) (congrArg (fun z => z.2.2) e5)
    exact congrArg some (Prod.ext k1 (Prod.ext k2 q))
def faP : List He.Fa := fa0 ++ fa1 ++ fa2 ++ fa3
def faQ : List He.Fa := fa4 ++ fa5 ++ fa6 ++ fa7
def faR : List He.Fa := fa8 ++ fa9 ++ fa10
theorem fa_PQR : faA ++ faB = faP ++ (faQ ++ faR) := by kernel_rfl
def fnA : List He.DefD := fn0 ++ fn1
def fnB : List He.DefD := fn2 ++ fn3 ++ fn4
theorem fn_AB : fn = fnA ++ fnB := by kernel_rfl
abbrev RwO : PySem.W.OpenRow := PySem.W.OpenLaw.row PySem.Challenge.rw_pairmart_k33_each_refusal_apart
abbrev qv : Program := PySem.W.view RwO.prog [113]
def names : List PySem.Str := ([("_wall" : PySem.Str), ("MarketFault" : PySem.Str), ("BadWish" : PySem.Str), ("BadRoom" : PySem.Str), ("BadMatch" : PySem.Str), ("BadPaper" : PySem.Str), ("BadSize" : PySem.Str), ("BadText" : PySem.Str), ("BadStore" : PySem.Str), ("NoSuch" : PySem.Str), ("BadDeed" : PySem.Str), ("Wish" : PySem.Str), ("check_list" : PySem.Str), ("check_groups" : PySem.Str), ("broken" : PySem.Str), ("group_ranks" : PySem.Str), ("all_lists" : PySem.Str), ("Market" : PySem.Str), ("check_match" : PySem.Str), ("those_in" : PySem.Str), ("unwanted" : PySem.Str), ("would_take" : PySem.Str), ("blocks" : PySem.Str), ("is_stable" : PySem.Str), ("check_words" : PySem.Str)] : List PySem.Str) ++ (([("Fair" : PySem.Str), ("Friends" : PySem.Str), ("parts" : PySem.Str), ("odd_parts" : PySem.Str), ("check_mates" : PySem.Str), ("SMALL" : PySem.Str), ("INNER" : PySem.Str), ("FIGURES" : PySem.Str), ("MOST_FIGURES" : PySem.Str), ("is_word" : PySem.Str), ("is_count" : PySem.Str), ("words_of" : PySem.Str), ("all_words" : PySem.Str), ("read_row" : PySem.Str), ("read" : PySem.Str), ("read_groups" : PySem.Str), ("BASE" : PySem.Str), ("WIDE" : PySem.Str), ("figure_of" : PySem.Str), ("Deed" : PySem.Str), ("read_deed" : PySem.Str), ("Book" : PySem.Str), ("Links" : PySem.Str), ("move_along" : PySem.Str), ("check_pairs" : PySem.Str)] : List PySem.Str) ++ (([("check_short" : PySem.Str), ("all_paired" : PySem.Str), ("check_square" : PySem.Str), ("parted" : PySem.Str), ("drawn" : PySem.Str), ("shared" : PySem.Str), ("Part" : PySem.Str), ("Pipes" : PySem.Str), ("Wants" : PySem.Str), ("check_cut" : PySem.Str), ("check_rows" : PySem.Str), ("Keeper" : PySem.Str), ("lists_of_lot" : PySem.Str), ("Votes" : PySem.Str), ("check_lot" : PySem.Str), ("Table" : PySem.Str), ("search" : PySem.Str), ("pair_off" : PySem.Str), ("check_steps" : PySem.Str), ("check_ask" : PySem.Str), ("check_ring" : PySem.Str), ("stable_paper" : PySem.Str), ("why_not" : PySem.Str), ("check_best" : PySem.Str), ("holds_by_right" : PySem.Str)] : List PySem.Str) ++ (([("Deals" : PySem.Str), ("Tied" : PySem.Str), ("Strong" : PySem.Str), ("check_none" : PySem.Str), ("better_of" : PySem.Str), ("must_be_stable" : PySem.Str), ("check_worths" : PySem.Str), ("Search" : PySem.Str), ("best_pairs" : PySem.Str), ("worth_of" : PySem.Str), ("check_worth" : PySem.Str), ("_law_dice" : PySem.Str), ("_law_roll" : PySem.Str), ("_law_rounds" : PySem.Str), ("_law_told" : PySem.Str), ("_law_tries" : PySem.Str)] : List PySem.Str))))

end K33
namespace K33
open PySem PySem.Spec PyProof.Rows L2
theorem run_a (w : World) : HandSHeadRun.RunEq RwO qv (hookC faP [] [] (fun _ => true)) (obG faP [] [] (fun _ => true)) 11000 names w := by
  intro os
  kernel_rfl
end K33
namespace K33
open PySem PySem.Spec PyProof.Rows L2
theorem run_b (w : World) : HandSHeadRun.RunEq RwO qv (hookC faQ [] [] (fun _ => true)) (obG faQ [] [] (fun _ => true)) 11000 names w := by
  intro os
  kernel_rfl
end K33
namespace K33
open PySem PySem.Spec PyProof.Rows L2
theorem run_c (w : World) : HandSHeadRun.RunEq RwO qv (hookC [] fnA [] (fun _ => true)) (obG [] fnA [] (fun _ => true)) 11000 names w := by
  intro os
  kernel_rfl
end K33
namespace K33
open PySem PySem.Spec PyProof.Rows L2
theorem run_d (w : World) : HandSHeadRun.RunEq RwO qv (hookC [] fnB [] (fun _ => true)) (obG [] fnB [] (fun _ => true)) 11000 names w := by
  intro os
  kernel_rfl
end K33
namespace K33
open PySem PySem.Spec PyProof.Rows L2
theorem run_e (w : World) : HandSHeadRun.RunEq RwO qv (hookC faR [] tf (dist)) (obG faR [] tf (dist)) 11000 names w := by
  intro os
  kernel_rfl
end K33
namespace K33
open PySem PySem.Spec PyProof.Rows L2
theorem run_all (w : World) : HandSHeadRun.RunEq RwO qv (hookC (faA ++ faB) fn tf dist) (obG (faA ++ faB) fn tf dist) 11000 names w := by
  rw [fn_AB, fa_PQR]
  exact run_join (run_a w) (run_b w) (run_c w) (run_d w) (run_e w)
end K33
set_option maxHeartbeats 2000000
namespace K33
open PySem PySem.Spec PyProof.Rows GenW L2

/-! ## generator expressions that a builtin eats up -/
theorem turnGen1 (el tg it0 : Expr) (cs : List Expr) (sc : Scope) (p : Pos) (itv av : Value) (en : Env) :
    compTurn (.GeneratorExp el [⟨tg, it0, cs, 0⟩] sc p) 0 itv av en = (do
      standAt it0.pos
      match ← pyNext itv with
      | none => pure (.done .next)
      | some u => do
        letOwnedTupleGo tg itv u
        assign tg en u
        let b ← (forIn cs true fun c r => if r = true then do let ok ← isTrue c en (eval c en); pure (ForInStep.yield ok) else pure (ForInStep.yield r))
        if b = true then (do
          (do let y ← eval el en; standAt el.pos; let _ ← yieldOut en y)
          again (.compLoop (.GeneratorExp el [⟨tg, it0, cs, 0⟩] sc p) 0 itv av en))
        else again (.compLoop (.GeneratorExp el [⟨tg, it0, cs, 0⟩] sc p) 0 itv av en)) := by
  first
    | rfl
    | (rw [compTurn_gen]; congr 1; funext _; congr 1; funext r; cases r <;> rfl)

/-- the consumer's ledger: where its own objects lie, how they look when the count is c -/
structure Ate where
  cs : List Addr
  st : Int → List (Addr × Obj) → Prop
structure Ate.Ok (U : Ate) (Y : Cx) : Prop where
  at_ : ∀ c l, U.st c l → ∀ p ∈ l, p.1 ∈ U.cs ∧ ∀ v, p.2.data ≠ .cell v
  all : ∀ c l, U.st c l → ∀ b ∈ U.cs, ∃ o, (b, o) ∈ l
  pn : ∀ p ∈ Y.pn, p.1 ∉ U.cs
  young : ∀ b ∈ U.cs, Y.s_0.heap.objs.size ≤ b ∧ b ≠ Y.env.locals ∧ ∀ x a, Y.env.cells.lookup x = some a → a ≠ b
  noex : ∀ b ∈ U.cs, b ∉ Y.ex
def AI (Y : Cx) (U : Ate) (c : Int) (ip : List (Addr × Obj)) (σ : L2.St) (H : Hp) (s : Shared) : Prop := ∃ l, U.st c l ∧ Inv Y (l ++ ip) σ H s
structure Woke (U : Ate) (c : Int) (s s' : Shared) : Prop where
  os : s'.os = s.os
  bare : AllBare s'.gens
  keep : ∀ b o, b ∉ U.cs → s.heap.get? b = some o → s'.heap.get? b = some o
  own : ∃ l, U.st c l ∧ ∀ p ∈ l, s'.heap.get? p.1 = some p.2

theorem AI.woke {Y : Cx} {U : Ate} {c c' : Int} {ip : List (Addr × Obj)} {σ : L2.St} {H : Hp} {s s' : Shared} (u : U.Ok Y) (hip : ∀ p ∈ ip, p.1 ∉ U.cs) (h : AI Y U c ip σ H s) (z : Woke U c' s s') : AI Y U c' ip σ H s' := by
  obtain ⟨l, hl, I⟩ := h
  have fr : ∀ b ∈ U.cs, H b = none ∧ b ≠ Y.env.locals ∧ b ∉ Y.fs ∧ ∃ o, s.heap.get? b = some o := fun b hb => by
    obtain ⟨o, ho⟩ := u.all c l hl b hb
    obtain ⟨e, n, nl, nf, _⟩ := I.pin (b, o) (List.mem_append_right _ (List.mem_append_left _ ho))
    exact ⟨n, nl, nf, o, e⟩
  have I0 : Inv Y ip σ H s := I.pins_of fun p hp => I.pin p (List.mem_append_right _ (List.mem_append_right _ hp))
  have nc : ∀ b u, H b = some u → b ∉ U.cs := fun b u q hb => by rw [(fr b hb).1] at q; cases q
  obtain ⟨zo, zb, zk, l', hl', zl⟩ := z
  have J : Inv Y ip σ H s' := by
    obtain ⟨hh, g, d, t, o⟩ := s'
    obtain rfl : o = s.os := zo
    refine I0.step (g' := g) (t' := t) (d' := d) (ch := U.cs) (fun b hb => ⟨.inr (u.young b hb).1, (u.young b hb).2.1, (u.young b hb).2.2, fun p hp e => ?_⟩)
      (fun b ob _ _ hc q _ => zk b ob hc q) (fun b ob _ _ hc q _ => ⟨ob.slots, zk b ob hc q⟩) (fun _ _ _ _ n => n) (fun b ob hc q => ⟨ob, zk b ob hc q⟩)
      (fun _ _ q => q) (fun _ _ _ q => q) (fun b ps q => ⟨#[], by rw [q]; simp⟩) (fun m hm => ?_) (fun b v q => ?_) zb
    · rw [← e] at hb
      rcases List.mem_append.mp hp with hp | hp
      · exact u.pn p hp hb
      · exact hip p hp hb
    · obtain ⟨ob, es, ep, ho, r⟩ := hm
      exact ⟨ob, es, ep, zk _ ob (fun hb => (fr _ hb).2.1 rfl) ho, r⟩
    · refine (I0.hok b v q).stay (fun a o' ha y => zk a o' ?_ y) (fun _ y => y) fun _ _ y => y
      rcases ha with y' | y'
      · rw [y']; exact nc b v q
      · exact nc a _ y'
  refine ⟨l', hl', J.pins_of fun p hp => ?_⟩
  rcases List.mem_append.mp hp with hp | hp
  · obtain ⟨h1, h2⟩ := u.at_ c' l' hl' p hp
    obtain ⟨f1, f2, f3, _⟩ := fr p.1 h1
    exact ⟨zl p hp, f1, f2, f3, h2⟩
  · exact J.pin p (List.mem_append_right _ hp)

def Ate.At (U : Ate) (c : Int) (s : Shared) : Prop := ∃ l, U.st c l ∧ ∀ p ∈ l, s.heap.get? p.1 = some p.2
abbrev Eat := Int → V → Hp → (Int → Prop) → Prop
def GxY (Y : Cx) (U : Ate) (Yd : Eat) : Protocol := fun _ s₀ v s kap =>
  ∃ c x ip σ H Nx, U.At c s₀ ∧ RelV x v ∧ AI Y U c ip σ H s ∧ Yd c x H Nx ∧ ∀ c' s', Nx c' → Woke U c' s s' → kap (.send .none) s'
def GxR (Y : Cx) (U : Ate) (En : Int → Hp → Prop) : GenEnd := fun _ s₀ r s => r = .ok .next ∧ ∃ c σ H, U.At c s₀ ∧ AI Y U c [] σ H s ∧ En c H

/-- what one clause wants; σ₀: the slots at each turn -/
def Gx1 (J : It) (g : TG) (tt : TT) (te : TE) (vs : List Nat) (σ₀ : L2.St) (Yd : Eat) (En : Int → Hp → Prop) (H1 : Hp) : Prop :=
  ∃ W : Nat → Nat → Int → Hp → Prop, (∃ m, W 0 m 0 H1) ∧ ∀ i m c H, W i m c H → (J.stop i H ∧ En c H) ∨ (J.go i H ∧ ∃ Nx : Int → Hp → Prop, (∀ c' H', Nx c' H' → ∃ m', m' < m ∧ W (i + 1) m' c' H') ∧
    ∀ x H', J.yld i H x H' → g x σ₀ H' fun σ2 H2 => wipe σ2 vs = σ₀ ∧ tt σ2 H2 fun b H3 => if b = true then te σ2 H3 fun y H4 => Yd c y H4 fun c' => Nx c' H4 else Nx c H3)

section
variable {Y : Cx} {U : Ate} {Yd : Eat} {En : Int → Hp → Prop} {A : Around} {el tg it0 : Expr} {cs : List Expr} {sc : Scope} {p : Pos} {it : Addr} {fp : List Addr} {tn : Nat → Heap → Prop} {J : It} {g : TG} {tt : TT} {te : TE} {vs : List Nat} {σ₀ : L2.St}

theorem pinD {pins : List (Addr × Obj)} {σ : L2.St} {H : Hp} {s : Shared} (I : Inv Y pins σ H s) {q : Addr × Obj} (h : q ∈ pins) : s.heap.get? q.1 = some q.2 ∧ H q.1 = none :=
  ⟨(I.pin q (List.mem_append_right _ h)).1, (I.pin q (List.mem_append_right _ h)).2.1⟩

theorem seg_gx1 (hov : A.over (.compLoop (.GeneratorExp el [⟨tg, it0, cs, 0⟩] sc p) 0 (.ref it) .none Y.env) [] = Y.A) (hco : Y.env.scope.isCoroutine = false) (hc : Y.calm = true) (hxe : Y.xe = fun _ _ => False)
    (u : U.Ok Y) (hfe : ∀ b ∈ fp, b ∈ Y.ex ∧ ∀ q ∈ Y.pn, q.1 ≠ b) (T : Turn Y.prog Y.w Y.K tg J fp it tn) (pg : PG Y tg g) (pt : PTs Y cs tt) (pe : PE Y el te) (W : Nat → Nat → Int → Hp → Prop)
    (turn : ∀ i m c H, W i m c H → (J.stop i H ∧ En c H) ∨ (J.go i H ∧ ∃ Nx : Int → Hp → Prop, (∀ c' H', Nx c' H' → ∃ m', m' < m ∧ W (i + 1) m' c' H') ∧
      ∀ x H', J.yld i H x H' → g x σ₀ H' fun σ2 H2 => wipe σ2 vs = σ₀ ∧ tt σ2 H2 fun b H3 => if b = true then te σ2 H3 fun y H4 => Yd c y H4 fun c' => Nx c' H4 else Nx c H3)) :
    ∀ (m i : Nat) (c : Int) (n : Nat) (s₀ s : Shared) (H : Hp), m < n → W i m c H → U.At c s₀ → AI Y U c [] σ₀ H s → tn i s.heap → (∀ b ∈ fp, H b = none) →
      Seg (model Y.prog Y.w) A (GxR Y U En) (GxY Y U Yd) n s₀ (.compLoop (.GeneratorExp el [⟨tg, it0, cs, 0⟩] sc p) 0 (.ref it) .none Y.env)
        ((model Y.prog Y.w).den (.compLoop (.GeneratorExp el [⟨tg, it0, cs, 0⟩] sc p) 0 (.ref it) .none Y.env)) [] s := by
  intro m
  induction m using Nat.strongRecOn with
  | ind m ih =>
    intro i c n s₀ s H hmn w h0 hI st nf
    have stat : ∀ {l : List (Addr × Obj)} {σ' : L2.St} {H' : Hp} {s' : Shared}, U.st c l → Inv Y (l ++ []) σ' H' s' → (∀ b ∈ fp, H' b = none) → ∀ b ∈ fp, FpOk Y (l ++ []) H' b := fun {l σ' H' s'} hl I' hn b hb =>
      ⟨hn b hb, (I'.ok.exf b (hfe b hb).1).1, I'.ok.exfs b (hfe b hb).1, .inl (hfe b hb).1, fun x a e => (I'.ok.exf b (hfe b hb).1).2 x a e, fun q hq => by
        rcases List.mem_append.mp hq with hq | hq
        · exact (hfe b hb).2 q hq
        · rw [List.append_nil] at hq
          exact fun z => u.noex q.1 (u.at_ c l hl q hq).1 (by rw [z]; exact (hfe b hb).1)⟩
    show Seg _ A _ _ n s₀ _ ((compTurn (.GeneratorExp el [⟨tg, it0, cs, 0⟩] sc p) 0 (.ref it) .none Y.env).onRaise (leaving Y.env)) [] s
    rw [turnGen1, Sem.onRaise_eq_wrap]
    refine seg_bind_wrap (wpAny_standAt ?_)
    obtain ⟨l, hl, I⟩ := hI
    rcases turn i m c H w with ⟨stop, en⟩ | ⟨go, Nx, hNx, step⟩
    · refine seg_bind_wrap ?_
      rw [hov]
      refine thn (T.done Y rfl rfl rfl hc i _ s _ H _ I (stat hl I nf) st stop) fun r s1 ⟨hr, I1⟩ => ?_
      subst hr
      exact seg_end (.ok .next) ⟨rfl, c, _, H, h0, ⟨l, hl, I1⟩, en⟩
    · refine seg_bind_wrap ?_
      rw [hov]
      refine thnF (T.item Y rfl rfl rfl hc i _ s _ H (fun _ _ => False) I (stat hl I nf) st go) fun r s1 ⟨uv, hr, h1⟩ => ?_
      subst hr
      refine seg_bind_wrap ?_
      rw [hov]
      refine thnF h1 fun _ s2 ⟨x, H2, I2, r2, y2, st2, n2⟩ => ?_
      have I2' := I2.pinned (stat hl I2 n2) (T.obj _ _ st2)
      refine seg_bind_wrap ?_
      rw [hov]
      have pgr := pg.run _ s2 σ₀ H2 x uv _ I2' r2 (step x H2 y2)
      rw [hxe] at pgr
      refine thnF pgr fun _ s3 ⟨σ3, H3, I3, hw3, q3⟩ => ?_
      refine seg_bind_wrap ?_
      rw [hov]
      have ptr := pt.run _ s3 σ3 H3 _ I3 q3
      rw [hxe] at ptr
      refine thnF ptr fun b s4 ⟨H4, I4, q4⟩ => ?_
      -- the next turn
      have fin : ∀ {s' : Shared} {c' : Int} {H' : Hp} {l' : List (Addr × Obj)} {n' : Nat} {s₁ : Shared}, U.st c' l' → Inv Y ((l' ++ []) ++ pinsAt fp s2.heap) σ3 H' s' → m ≤ n' → U.At c' s₁ → Nx c' H' →
          Seg (model Y.prog Y.w) A (GxR Y U En) (GxY Y U Yd) n' s₁ (.compLoop (.GeneratorExp el [⟨tg, it0, cs, 0⟩] sc p) 0 (.ref it) .none Y.env)
            ((model Y.prog Y.w).den (.compLoop (.GeneratorExp el [⟨tg, it0, cs, 0⟩] sc p) 0 (.ref it) .none Y.env)) [] s' := fun {s' c' H' l' n' s₁} hl' I' hle h1 nx => by
        obtain ⟨m', hm, w'⟩ := hNx c' H' nx
        have pin' : ∀ b ∈ fp, ∀ o, s2.heap.get? b = some o → s'.heap.get? b = some o ∧ H' b = none := fun b hb o e => pinD I' (List.mem_append_right _ (mem_pinsAt hb e))
        refine ih m' hm (i + 1) c' n' s₁ s' H' (by omega) w' h1 ⟨l', hl', I'.unpinned.weak (by rw [← hw3, wipe_length]) fun j v e => by rw [← hw3] at e; exact (wipe_some e).1⟩ (T.keep _ _ _ st2 fun b hb o e => (pin' b hb o e).1) fun b hb => ?_
        obtain ⟨o, e, _⟩ := T.obj _ _ st2 b hb
        exact (pin' b hb o e).2
      cases b with
      | false =>
        simp only [Bool.false_eq_true, if_false] at q4 ⊢
        exact seg_again rfl (fin hl I4 (by omega) h0 q4)
      | true =>
        simp only [if_true] at q4 ⊢
        have hy : ∀ v, yieldOut Y.env v = yieldValue v := fun v => by simp only [yieldOut, hco, Bool.false_eq_true, if_false]
        simp only [hy]
        rw [Sem.bind_eq_wrap', Sem.bind_eq_wrap', Sem.wrap_wrap, Sem.wrap_wrap]
        refine seg_wrap ?_
        rw [hov]
        have per := pe.run _ s4 σ3 H4 _ I4 q4
        rw [hxe] at per
        refine thnF per fun yv s5 ⟨y, H5, I5, r5, q5⟩ => ?_
        obtain ⟨m0, rfl⟩ : ∃ m0, n = m0 + 1 := ⟨n - 1, by omega⟩
        refine seg_at (seg_yield rfl rfl rfl ⟨c, y, pinsAt fp s2.heap, σ3, H5, fun c' => Nx c' H5, h0, r5, ⟨l, hl, by rw [List.append_nil] at I5; exact I5⟩, q5, fun c' s' hn hwk => ?_⟩)
        obtain ⟨l', hl', I6⟩ := AI.woke u (fun q hq hb => u.noex q.1 hb (hfe q.1 (of_pinsAt hq).1).1) (⟨l, hl, by rw [List.append_nil] at I5; exact I5⟩ : AI Y U c (pinsAt fp s2.heap) σ3 H5 s5) hwk
        exact seg_again rfl (fin hl' (by rw [List.append_nil]; exact I6) (by omega) hwk.own hn)

theorem turnGen2a (el t0 i0 t1 i1 : Expr) (c0 c1 : List Expr) (sc : Scope) (p : Pos) (itv av : Value) (en : Env) :
    compTurn (.GeneratorExp el [⟨t0, i0, c0, 0⟩, ⟨t1, i1, c1, 0⟩] sc p) 0 itv av en = (do
      standAt i0.pos
      match ← pyNext itv with
      | none => pure (.done .next)
      | some u => do
        letOwnedTupleGo t0 itv u
        assign t0 en u
        let b ← (forIn c0 true fun c r => if r = true then do let ok ← isTrue c en (eval c en); pure (ForInStep.yield ok) else pure (ForInStep.yield r))
        if b = true then (do
          let x ← eval i1 en
          standAt i1.pos
          let x ← foldedSetIterable i1 en x
          let jt ← holding [x] (pyIter x)
          let _ ← runOwn (.compStart (.GeneratorExp el [⟨t0, i0, c0, 0⟩, ⟨t1, i1, c1, 0⟩] sc p) 1 jt av en) en
          again (.compLoop (.GeneratorExp el [⟨t0, i0, c0, 0⟩, ⟨t1, i1, c1, 0⟩] sc p) 0 itv av en))
        else again (.compLoop (.GeneratorExp el [⟨t0, i0, c0, 0⟩, ⟨t1, i1, c1, 0⟩] sc p) 0 itv av en)) := by
  rfl
theorem turnGen2b (el t0 i0 t1 i1 : Expr) (c0 c1 : List Expr) (sc : Scope) (p : Pos) (itv av : Value) (en : Env) :
    compTurn (.GeneratorExp el [⟨t0, i0, c0, 0⟩, ⟨t1, i1, c1, 0⟩] sc p) 1 itv av en = (do
      standAt i1.pos
      match ← pyNext itv with
      | none => pure (.done .next)
      | some u => do
        letOwnedTupleGo t1 itv u
        assign t1 en u
        let b ← (forIn c1 true fun c r => if r = true then do let ok ← isTrue c en (eval c en); pure (ForInStep.yield ok) else pure (ForInStep.yield r))
        if b = true then (do
          (do let y ← eval el en; standAt el.pos; let _ ← yieldOut en y)
          again (.compLoop (.GeneratorExp el [⟨t0, i0, c0, 0⟩, ⟨t1, i1, c1, 0⟩] sc p) 1 itv av en))
        else again (.compLoop (.GeneratorExp el [⟨t0, i0, c0, 0⟩, ⟨t1, i1, c1, 0⟩] sc p) 1 itv av en)) := by
  rfl

abbrev g2 (el tg it0 t1 i1 : Expr) (cs c1 : List Expr) (sc : Scope) (p : Pos) : Expr := .GeneratorExp el [⟨tg, it0, cs, 0⟩, ⟨t1, i1, c1, 0⟩] sc p
/-- what two clauses want -/
def Gx2 (J : It) (g : TG) (tt : TT) (w1 : TI) (g1 : TG) (tt1 : TT) (te : TE) (vs vs1 : List Nat) (σ₀ : L2.St) (Yd : Eat) (En : Int → Hp → Prop) (H1 : Hp) : Prop :=
  ∃ W : Nat → Nat → Int → Hp → Prop, (∃ m, W 0 m 0 H1) ∧ ∀ i m c H, W i m c H → (J.stop i H ∧ En c H) ∨ (J.go i H ∧ ∃ Nx : Nat → Int → Hp → Prop, (∀ m' c' H', Nx m' c' H' → m' < m ∧ W (i + 1) m' c' H') ∧
    ∀ x H', J.yld i H x H' → g x σ₀ H' fun σ2 H2 => wipe σ2 vs = σ₀ ∧ tt σ2 H2 fun b H3 => if b = true then
      w1 σ2 H3 (fun J1 H4 => ∃ W1 : Nat → Nat → Int → Hp → Prop, (∃ k, k ≤ m ∧ W1 0 k c H4) ∧ ∀ j k c H, W1 j k c H → (J1.stop j H ∧ ∃ m', m' ≤ k ∧ Nx m' c H) ∨ (J1.go j H ∧ ∃ Mx : Int → Hp → Prop, (∀ c' H', Mx c' H' → ∃ k', k' < k ∧ W1 (j + 1) k' c' H') ∧
        ∀ x1 H', J1.yld j H x1 H' → g1 x1 (wipe σ2 vs1) H' fun σ5 H5 => wipe σ5 vs1 = wipe σ2 vs1 ∧ tt1 σ5 H5 fun b1 H6 => if b1 = true then te σ5 H6 fun y H7 => Yd c y H7 fun c' => Mx c' H7 else Mx c H6))
    else ∃ m', Nx m' c H3)

theorem seg_call' {M : Model} {A : Around} {R : GenEnd} {Yp : Protocol} {n : Nat} {s₀ : Shared} {c c' : Code} {fs : List Frame} {s : Shared} {gd : Bool} {lv : List Value} {k : Result → Sem PySem.Fin} {t : Sem PySem.Fin} (hk : k (.ok .next) = t)
    (h : ∀ (kk : Result → Sem PySem.Fin) (pp : Pos), kk (.ok .next) = t → Seg M A R Yp n s₀ c' (M.den c') (.ret kk none gd lv c pp [] :: fs) s) : Seg M A R Yp n s₀ c (.call c' none gd lv k) fs s :=
  seg_call fun pp => h k pp hk
theorem seg_gx2 {t1 i1 : Expr} {c1 : List Expr} {w1 : TI} {g1 : TG} {tt1 : TT} {vs1 : List Nat} (hov : A.over (.compLoop (g2 el tg it0 t1 i1 cs c1 sc p) 0 (.ref it) .none Y.env) [] = Y.A) (hco : Y.env.scope.isCoroutine = false) (hc : Y.calm = true) (hxe : Y.xe = fun _ _ => False)
    (hfe : ∀ b ∈ fp, b ∈ Y.ex ∧ ∀ q ∈ Y.pn, q.1 ≠ b) (T : Turn Y.prog Y.w Y.K tg J fp it tn) (pg : PG Y tg g) (pt : PTs Y cs tt) (pe : PE Y el te) (pi1 : PI Y t1 i1 w1) (pg1 : PG Y t1 g1) (pt1 : PTs Y c1 tt1)
    (hs1 : ∀ x, foldedSetIterable i1 Y.env x = pure x) (hv : ∀ j ∈ vs1, j ∈ vs) {H1 : Hp} (h : Gx2 J g tt w1 g1 tt1 te vs vs1 σ₀ Yd En H1) :
    ∃ m₀, ∀ (U : Ate) (u : U.Ok Y) (n : Nat) (s₀ s : Shared), m₀ < n → U.At 0 s₀ → AI Y U 0 [] σ₀ H1 s → tn 0 s.heap → (∀ b ∈ fp, H1 b = none) →
      Seg (model Y.prog Y.w) A (GxR Y U En) (GxY Y U Yd) n s₀ (.compLoop (g2 el tg it0 t1 i1 cs c1 sc p) 0 (.ref it) .none Y.env)
        ((model Y.prog Y.w).den (.compLoop (g2 el tg it0 t1 i1 cs c1 sc p) 0 (.ref it) .none Y.env)) [] s := by
  obtain ⟨W, ⟨mm, wm⟩, turn⟩ := h
  refine ⟨mm, fun U u => ?_⟩
  suffices key : ∀ (m i : Nat) (c : Int) (n : Nat) (s₀ s : Shared) (H : Hp), m < n → W i m c H → U.At c s₀ → AI Y U c [] σ₀ H s → tn i s.heap → (∀ b ∈ fp, H b = none) →
      Seg (model Y.prog Y.w) A (GxR Y U En) (GxY Y U Yd) n s₀ (.compLoop (g2 el tg it0 t1 i1 cs c1 sc p) 0 (.ref it) .none Y.env)
        ((model Y.prog Y.w).den (.compLoop (g2 el tg it0 t1 i1 cs c1 sc p) 0 (.ref it) .none Y.env)) [] s from
    (fun n s₀ s hn h0 hI st nf => key mm 0 0 n s₀ s H1 hn wm h0 hI st nf)
  intro m
  induction m using Nat.strongRecOn with
  | ind m ih =>
    intro i c n s₀ s H hmn w h0 hI st nf
    have hpx : ∀ {c' : Int} {l : List (Addr × Obj)}, U.st c' l → ∀ b ∈ fp, ∀ q ∈ l, q.1 ≠ b := fun {c' l} hl b hb q hq z => u.noex q.1 (u.at_ c' l hl q hq).1 (by rw [z]; exact (hfe b hb).1)
    have stat : ∀ {c' : Int} {l ip : List (Addr × Obj)} {σ' : L2.St} {H' : Hp} {s' : Shared}, U.st c' l → (∀ b ∈ fp, ∀ q ∈ ip, q.1 ≠ b) → Inv Y (l ++ ip) σ' H' s' → (∀ b ∈ fp, H' b = none) → ∀ b ∈ fp, FpOk Y (l ++ ip) H' b := fun {c' l ip σ' H' s'} hl hq I' hn b hb =>
      ⟨hn b hb, (I'.ok.exf b (hfe b hb).1).1, I'.ok.exfs b (hfe b hb).1, .inl (hfe b hb).1, fun x a e => (I'.ok.exf b (hfe b hb).1).2 x a e, fun q hq' => by
        rcases List.mem_append.mp hq' with hq' | hq'
        · exact (hfe b hb).2 q hq'
        · rcases List.mem_append.mp hq' with hq' | hq'
          · exact hpx hl b hb q hq'
          · exact hq b hb q hq'⟩
    show Seg _ A _ _ n s₀ _ ((compTurn (g2 el tg it0 t1 i1 cs c1 sc p) 0 (.ref it) .none Y.env).onRaise (leaving Y.env)) [] s
    rw [turnGen2a, Sem.onRaise_eq_wrap]
    refine seg_bind_wrap (wpAny_standAt ?_)
    obtain ⟨l, hl, I⟩ := hI
    have nip : ∀ b ∈ fp, ∀ q ∈ ([] : List (Addr × Obj)), q.1 ≠ b := fun b _ q hq => nomatch hq
    rcases turn i m c H w with ⟨stop, en⟩ | ⟨go, Nx, hNx, step⟩
    · refine seg_bind_wrap ?_
      rw [hov]
      refine thn (T.done Y rfl rfl rfl hc i _ s _ H _ I (stat hl nip I nf) st stop) fun r s1 ⟨hr, I1⟩ => ?_
      subst hr
      exact seg_end (.ok .next) ⟨rfl, c, _, H, h0, ⟨l, hl, I1⟩, en⟩
    · refine seg_bind_wrap ?_
      rw [hov]
      refine thnF (T.item Y rfl rfl rfl hc i _ s _ H (fun _ _ => False) I (stat hl nip I nf) st go) fun r s1 ⟨uv, hr, h1⟩ => ?_
      subst hr
      refine seg_bind_wrap ?_
      rw [hov]
      refine thnF h1 fun _ s2 ⟨x, H2, I2, r2, y2, st2, n2⟩ => ?_
      have I2' := I2.pinned (stat hl nip I2 n2) (T.obj _ _ st2)
      refine seg_bind_wrap ?_
      rw [hov]
      have pgr := pg.run _ s2 σ₀ H2 x uv _ I2' r2 (step x H2 y2)
      rw [hxe] at pgr
      refine thnF pgr fun _ s3 ⟨σ3, H3, I3, hw3, q3⟩ => ?_
      refine seg_bind_wrap ?_
      rw [hov]
      have ptr := pt.run _ s3 σ3 H3 _ I3 q3
      rw [hxe] at ptr
      refine thnF ptr fun b s4 ⟨H4, I4, q4⟩ => ?_
      have hl3 : σ₀.length = σ3.length := by rw [← hw3, wipe_length]
      have hk3 : ∀ (j : Nat) v, σ₀[j]? = some (some v) → σ3[j]? = some (some v) ∧ j ∉ vs := fun j v e => by
        rw [← hw3] at e
        exact wipe_some e
      -- the next turn of the first clause
      have fin : ∀ {s' : Shared} {c' : Int} {H' : Hp} {l' : List (Addr × Obj)} {σ' : L2.St} {n' m' : Nat} {s₁ : Shared}, U.st c' l' → Inv Y (l' ++ pinsAt fp s2.heap) σ' H' s' → σ₀.length = σ'.length → (∀ (j : Nat) v, σ₀[j]? = some (some v) → σ'[j]? = some (some v)) → m' < n' → U.At c' s₁ → Nx m' c' H' →
          Seg (model Y.prog Y.w) A (GxR Y U En) (GxY Y U Yd) n' s₁ (.compLoop (g2 el tg it0 t1 i1 cs c1 sc p) 0 (.ref it) .none Y.env)
            ((model Y.prog Y.w).den (.compLoop (g2 el tg it0 t1 i1 cs c1 sc p) 0 (.ref it) .none Y.env)) [] s' := fun {s' c' H' l' σ' n' m' s₁} hl' I' hlen hkk hle h1 nx => by
        obtain ⟨hm, w'⟩ := hNx m' c' H' nx
        have pin' : ∀ b ∈ fp, ∀ o, s2.heap.get? b = some o → s'.heap.get? b = some o ∧ H' b = none := fun b hb o e => pinD I' (List.mem_append_right _ (mem_pinsAt hb e))
        refine ih m' hm (i + 1) c' n' s₁ s' H' hle w' h1 ⟨l', hl', by rw [List.append_nil]; exact I'.unpinned.weak hlen hkk⟩ (T.keep _ _ _ st2 fun b hb o e => (pin' b hb o e).1) fun b hb => ?_
        obtain ⟨o, e, _⟩ := T.obj _ _ st2 b hb
        exact (pin' b hb o e).2
      cases b with
      | false =>
        simp only [Bool.false_eq_true, if_false] at q4 ⊢
        obtain ⟨m', nx⟩ := q4
        exact seg_again rfl (fin hl (by rw [List.append_nil] at I4; exact I4) hl3 (fun j v e => (hk3 j v e).1) (Nat.lt_trans (hNx _ _ _ nx).1 hmn) h0 nx)
      | true =>
        simp only [if_true] at q4 ⊢
        refine seg_bind_wrap ?_
        rw [hov]
        have pir := pi1.run _ s4 σ3 H4 _ I4 q4
        rw [hxe] at pir
        refine thnF pir fun xv s5 hx => ?_
        refine seg_bind_wrap (wpAny_standAt ?_)
        refine seg_bind_wrap (wpAny_of_eq (hs1 xv) ?_)
        refine seg_bind_wrap (wpAny_holding ?_)
        rw [hov]
        refine thnF hx fun itv s6 h6 => ?_
        obtain ⟨it1, fp1, tn1, J1, H6, e1, I6, T1, st6, f6, W1, ⟨k0, hk0, w0⟩, turn1⟩ := h6
        subst e1
        refine seg_call' (c' := .compStart (g2 el tg it0 t1 i1 cs c1 sc p) 1 (.ref it1) .none Y.env) (t := .pure (.again (.compLoop (g2 el tg it0 t1 i1 cs c1 sc p) 0 (.ref it) .none Y.env))) rfl fun kk pp hkk => ?_
        have hov1 : A.over (.compLoop (g2 el tg it0 t1 i1 cs c1 sc p) 1 (.ref it1) .none Y.env) [.ret kk none (id false) (id []) (.compLoop (g2 el tg it0 t1 i1 cs c1 sc p) 0 (.ref it) .none Y.env) pp []] = Y.A := (over_loop rfl rfl).trans hov
        have hov2 : A.over (.compStart (g2 el tg it0 t1 i1 cs c1 sc p) 1 (.ref it1) .none Y.env) [.ret kk none (id false) (id []) (.compLoop (g2 el tg it0 t1 i1 cs c1 sc p) 0 (.ref it) .none Y.env) pp []] = Y.A := (over_loop rfl rfl).trans hov
        have cf : ∀ b ∈ fp1, ∀ q ∈ U.cs, q ≠ b := fun b hb q hq => by
          obtain ⟨o, ho⟩ := u.all c l hl q hq
          exact (f6 b hb).2.2.2.2.2 (q, o) (List.mem_append_right _ (List.mem_append_left _ (List.mem_append_left _ ho)))
        have pf : ∀ b ∈ fp1, ∀ q ∈ pinsAt fp s2.heap, q.1 ≠ b := fun b hb q hq => (f6 b hb).2.2.2.2.2 q (List.mem_append_right _ (List.mem_append_right _ hq))
        have stat1 : ∀ {c' : Int} {l' : List (Addr × Obj)} {H' : Hp}, U.st c' l' → (∀ b ∈ fp1, H' b = none) → ∀ b ∈ fp1, FpOk Y (l' ++ pinsAt fp s2.heap) H' b := fun {c' l' H'} hl' hn b hb =>
          ⟨hn b hb, (f6 b hb).2.1, (f6 b hb).2.2.1, (f6 b hb).2.2.2.1, (f6 b hb).2.2.2.2.1, fun q hq => by
            rcases List.mem_append.mp hq with hq | hq
            · exact (f6 b hb).2.2.2.2.2 q (List.mem_append_left _ hq)
            · rcases List.mem_append.mp hq with hq | hq
              · exact cf b hb q.1 (u.at_ c' l' hl' q hq).1
              · exact pf b hb q hq⟩
        have pcs : ∀ q ∈ pinsAt fp s2.heap, q.1 ∉ U.cs := fun q hq hb => u.noex q.1 hb (hfe q.1 (of_pinsAt hq).1).1
        have loop1 : ∀ (k j : Nat) (c : Int) (n : Nat) (s₀ s : Shared) (H : Hp), k < n → W1 j k c H → U.At c s₀ → AI Y U c (pinsAt fp s2.heap) (wipe σ3 vs1) H s → tn1 j s.heap → (∀ b ∈ fp1, H b = none) → k ≤ m →
            Seg (model Y.prog Y.w) A (GxR Y U En) (GxY Y U Yd) n s₀ (.compLoop (g2 el tg it0 t1 i1 cs c1 sc p) 1 (.ref it1) .none Y.env)
              ((model Y.prog Y.w).den (.compLoop (g2 el tg it0 t1 i1 cs c1 sc p) 1 (.ref it1) .none Y.env)) [.ret kk none (id false) (id []) (.compLoop (g2 el tg it0 t1 i1 cs c1 sc p) 0 (.ref it) .none Y.env) pp []] s := by
          intro k
          induction k using Nat.strongRecOn with
          | ind k ih1 =>
            intro j c n s₀ s H hkn w1k h0 hI1 stj nf1 hkm
            obtain ⟨l, hl, I⟩ := hI1
            show Seg _ A _ _ n s₀ _ ((compTurn (g2 el tg it0 t1 i1 cs c1 sc p) 1 (.ref it1) .none Y.env).onRaise (fun x => do noteFrame x Y.env; theTreesLotGoes x)) _ s
            rw [turnGen2b, Sem.onRaise_eq_wrap]
            refine seg_bind_wrap (wpAny_standAt ?_)
            rcases turn1 j k c H w1k with ⟨stop1, m', hm', nx1⟩ | ⟨go1, Mx, hMx, step1⟩
            · refine seg_bind_wrap ?_
              rw [hov1]
              refine thn (T1.done Y rfl rfl rfl hc j _ s _ H _ I (stat1 hl nf1) stj stop1) fun r s7 ⟨hr, I7⟩ => ?_
              subst hr
              refine seg_leaf (.ok .next) ?_
              rw [hkk]
              exact seg_again rfl (fin hl I7 (hl3.trans (wipe_length σ3 vs1).symm) (fun q v e => by rw [wipe_out fun z => (hk3 q v e).2 (hv q z)]; exact (hk3 q v e).1) (Nat.lt_of_le_of_lt hm' hkn) h0 nx1)
            · refine seg_bind_wrap ?_
              rw [hov1]
              refine thnF (T1.item Y rfl rfl rfl hc j _ s _ H (fun _ _ => False) I (stat1 hl nf1) stj go1) fun r s7 ⟨uv1, hr, h7⟩ => ?_
              subst hr
              refine seg_bind_wrap ?_
              rw [hov1]
              refine thnF h7 fun _ s8 ⟨x1, H8, I8, r8, y8, st8, n8⟩ => ?_
              have I8' := I8.pinned (stat1 hl n8) (T1.obj _ _ st8)
              refine seg_bind_wrap ?_
              rw [hov1]
              have pgr1 := pg1.run _ s8 (wipe σ3 vs1) H8 x1 uv1 _ I8' r8 (step1 x1 H8 y8)
              rw [hxe] at pgr1
              refine thnF pgr1 fun _ s9 ⟨σ9, H9, I9, hw9, q9⟩ => ?_
              refine seg_bind_wrap ?_
              rw [hov1]
              have ptr1 := pt1.run _ s9 σ9 H9 _ I9 q9
              rw [hxe] at ptr1
              refine thnF ptr1 fun b1 s10 ⟨H10, I10, q10⟩ => ?_
              have fin1 : ∀ {s' : Shared} {c' : Int} {H' : Hp} {l' : List (Addr × Obj)} {n' : Nat} {s₁ : Shared}, U.st c' l' → Inv Y ((l' ++ pinsAt fp s2.heap) ++ pinsAt fp1 s8.heap) σ9 H' s' → k ≤ n' → U.At c' s₁ → Mx c' H' →
                  Seg (model Y.prog Y.w) A (GxR Y U En) (GxY Y U Yd) n' s₁ (.compLoop (g2 el tg it0 t1 i1 cs c1 sc p) 1 (.ref it1) .none Y.env)
                    ((model Y.prog Y.w).den (.compLoop (g2 el tg it0 t1 i1 cs c1 sc p) 1 (.ref it1) .none Y.env)) [.ret kk none (id false) (id []) (.compLoop (g2 el tg it0 t1 i1 cs c1 sc p) 0 (.ref it) .none Y.env) pp []] s' := fun {s' c' H' l' n' s₁} hl' I' hle h1 nx => by
                obtain ⟨k', hk', w'⟩ := hMx c' H' nx
                have pin' : ∀ b ∈ fp1, ∀ o, s8.heap.get? b = some o → s'.heap.get? b = some o ∧ H' b = none := fun b hb o e => pinD I' (List.mem_append_right _ (mem_pinsAt hb e))
                refine ih1 k' hk' (j + 1) c' n' s₁ s' H' (Nat.lt_of_lt_of_le hk' hle) w' h1 ⟨l', hl', I'.unpinned.weak (by rw [← hw9, wipe_length]) fun q v e => by rw [← hw9] at e; exact (wipe_some e).1⟩ (T1.keep _ _ _ st8 fun b hb o e => (pin' b hb o e).1) (fun b hb => ?_) (by omega)
                obtain ⟨o, e, _⟩ := T1.obj _ _ st8 b hb
                exact (pin' b hb o e).2
              cases b1 with
              | false =>
                simp only [Bool.false_eq_true, if_false] at q10 ⊢
                exact seg_again rfl (fin1 hl I10 (Nat.le_of_lt hkn) h0 q10)
              | true =>
                simp only [if_true] at q10 ⊢
                have hy : ∀ v, yieldOut Y.env v = yieldValue v := fun v => by simp only [yieldOut, hco, Bool.false_eq_true, if_false]
                simp only [hy]
                rw [Sem.bind_eq_wrap', Sem.bind_eq_wrap', Sem.wrap_wrap, Sem.wrap_wrap]
                refine seg_wrap ?_
                rw [hov1]
                have per := pe.run _ s10 σ9 H10 _ I10 q10
                rw [hxe] at per
                refine thnF per fun yv s11 ⟨y, H11, I11, r11, q11⟩ => ?_
                obtain ⟨n', rfl⟩ : ∃ n', n = n' + 1 := ⟨n - 1, by omega⟩
                have hAI : AI Y U c (pinsAt fp s2.heap ++ pinsAt fp1 s8.heap) σ9 H11 s11 := ⟨l, hl, by rw [← List.append_assoc]; exact I11⟩
                refine seg_at (seg_yield rfl rfl rfl ⟨c, y, _, σ9, H11, fun c' => Mx c' H11, h0, r11, hAI, q11, fun c' s' hn hwk => ?_⟩)
                obtain ⟨l', hl', I12⟩ := AI.woke u (fun q hq hb => (List.mem_append.mp hq).elim (fun hq => pcs q hq hb) fun hq => cf q.1 (of_pinsAt hq).1 q.1 hb rfl) hAI hwk
                exact seg_again rfl (fin1 hl' (by rw [List.append_assoc]; exact I12) (by omega) hwk.own hn)
        have go1 := loop1 k0 0 c n s₀ s6 H6 (Nat.lt_of_le_of_lt hk0 hmn) w0 h0 ⟨l, hl, by rw [List.append_nil] at I6; exact I6.weak (wipe_length _ _) fun q v e => (wipe_some e).1⟩ st6 (fun b hb => (f6 b hb).1) hk0
        show Seg _ A _ _ n s₀ _ ((compStart (g2 el tg it0 t1 i1 cs c1 sc p) 1 (.ref it1) .none Y.env).onRaise (fun x => do noteFrame x Y.env; standAt theWindowsPlace)) _ s6
        unfold compStart
        rw [Sem.onRaise_eq_wrap]
        show Seg _ A _ _ n s₀ _ ((ask >>= _).wrap _ _ _ _) _ s6
        refine seg_bind_wrap (wpAny_askSetting ?_)
        split
        · exact seg_again rfl go1
        · refine seg_bind_wrap (wpAny_rule ?_)
          show Seg _ A _ _ n s₀ _ ((standAt i1.pos >>= _).wrap _ _ _ _) _ s6
          exact seg_bind_wrap (wpAny_standAt (seg_bind_wrap (T1.self _ 0 _ _ _ st6 (seg_again rfl go1))))
end
end K33
namespace K33
open PySem PySem.Spec PyProof.Rows GenW L2

theorem eval_gx (el tg it0 : Expr) (cs : List Expr) (more : List Comprehension) (sc : Scope) (p : Pos) (en : Env) (hco : sc.isCoroutine = false) :
    eval (.GeneratorExp el (⟨tg, it0, cs, 0⟩ :: more) sc p) en = (do
      let x ← eval it0 en
      standAt it0.pos
      let x ← genFold it0 en x
      let jt ← holding [x] (pyIter x)
      enterFrame
      let cl ← closureFor sc en
      let cv ← genexprCode en p (en.qual ++ "<genexpr>") sc
      let bi ← builtinsFor en.globals en.builtins
      let ce ← newFunctionEnv sc en.globals cl [(".0", jt)] (en.qual ++ "<genexpr>.") none cv none bi
      newGenerator (.compStart (.GeneratorExp el (⟨tg, it0, cs, 0⟩ :: more) sc p) 0 jt .none ce) "<genexpr>" (en.qual ++ "<genexpr>")) := by
  rw [arm_eval_GeneratorExp]; simp only [hco, Bool.false_eq_true, if_false]; cases it0 <;> rfl

abbrev gen (X : Cx) (s : Shared) (H : Hp) (ce : Env) (A : Around) (fp : List Addr) (pn : List (Addr × Obj)) : Cx :=
  { X with A := A, s_0 := s, H_0 := H, env := ce, outer := X.stack, stack := ce :: X.stack, ex := fp, fn := fun _ => false, pn := pn, xe := fun _ _ => False }

section
variable {X : Cx} {pins : List (Addr × Obj)} {σ : L2.St} {H : Hp} {s : Shared}

/-- the generator's context at its start -/
theorem gen_start {sc : Scope} {own : List (Str × Nat)} {fp : List Addr} {A' : Around} {code : Value} {a : Addr} {o : Obj} {s5 : Shared} {itv : Value} (I : Inv X pins σ H s) (B : BlkOk X.N X.env.scope sc own) (hN : X.N.Nodup)
    (hcell : ∀ y ∈ sc.names, y.2 ≠ .cell) (hfp : ∀ b ∈ fp, FpOk X pins H b ∧ b < s.heap.objs.size) (hA : A'.handled = none) (hf : A'.frames = some (genEnv sc (cloFrom X.env.cells sc.names []) s.heap.objs.size code builtinsNs X.env :: X.stack))
    (kp : ∀ b o, s.heap.get? b = some o → s5.heap.get? b = some o) (hns : s5.heap.Ns s.heap.objs.size (fun y => if y = ".0" then some itv else none)) (hos : s5.os = s.os) (hbare : AllBare s5.gens)
    (hao : s5.heap.get? a = some o) (ha : s.heap.objs.size < a) (hod : ∀ v, o.data ≠ .cell v) (hdot : (".0" : Str) ∉ X.N) :
    Inv (gen X s H (genEnv sc (cloFrom X.env.cells sc.names []) s.heap.objs.size code builtinsNs X.env) A' fp [(a, o)]) [] (wipe σ (own.map (·.2))) H s5 := by
  have hfree : ∀ y ∈ sc.names, y.2 = .free → ∃ c, X.env.cells.lookup y.1 = some c := fun y hy e => by
    rcases B.free y hy e with k | k
    · exact I.ok.has _ (.inl k)
    · exact I.ok.has _ (.inr k)
  generalize hce : genEnv sc (cloFrom X.env.cells sc.names []) s.heap.objs.size code builtinsNs X.env = ce at hf
  have eL : ce.locals = s.heap.objs.size := by rw [← hce]; rfl
  have eC : ce.cells = cloFrom X.env.cells sc.names [] := by rw [← hce]; rfl
  have eS : ce.scope = sc := by rw [← hce]; rfl
  have cm : ∀ {y c}, (y, c) ∈ cloFrom X.env.cells sc.names [] → X.env.cells.lookup y = some c ∧ c < s.heap.objs.size := fun {y c} hm => by
    rcases cloFrom_mem hm with hm | ⟨h1, rfl⟩
    · cases hm
    · obtain ⟨c, hc⟩ := hfree _ h1 rfl
      rw [hc]
      obtain ⟨w, z⟩ := I.cell _ _ hc
      exact ⟨rfl, z.lt⟩
  have mem : ∀ {y c}, ce.cells.lookup y = some c → X.env.cells.lookup y = some c ∧ c < s.heap.objs.size := fun {y c} e => by
    rw [eC] at e; exact cm (PySem.mem_of_lookup e)
  have look : ∀ {y}, sc.names.lookup y = some .free → ∃ c, ce.cells.lookup y = some c ∧ X.env.cells.lookup y = some c := fun {y} hl => by
    obtain ⟨c', e'⟩ := mem_lookup (cloFrom_has (cells := X.env.cells) (acc := []) (PySem.mem_of_lookup hl : (y, NameKind.free) ∈ sc.names))
    rw [← eC] at e'
    exact ⟨c', e', (mem e').1⟩
  have hfsz : ∀ b ∈ X.stack.filterMap (·.frame), b < s.heap.objs.size := fun b hb => by
    rcases List.mem_cons.mp (I.stkSub b hb) with z | z
    · rw [z]; exact I.lt
    · exact Nat.lt_of_not_le fun q => I.nofs q z
  have okG : (gen X s H ce A' fp [(a, o)]).Ok := by
    refine ⟨I.ok.mod, by show ce.scope.kind = _; rw [eS]; exact B.kind, by show ce.globals = _; rw [← hce]; exact I.ok.glob, by show ce.builtins = _; rw [← hce]; rfl, by show s.heap.objs.size ≤ ce.locals; rw [eL]; exact Nat.le_refl _,
      fun y z c e1 e2 => I.ok.inj y z c (mem e1).1 (mem e2).1, fun y hy => ?_, fun y c z e => (by cases z), fun _ => hA, hf, .inr ⟨rfl, by show ce.frame = some ce.locals; rw [← hce]; rfl⟩, fun b hb => ⟨?_, fun y c e z => ?_⟩, I.bs, Nat.le_trans I.ok.bsz I.sz, fun b ob e hb => ?_, fun b hb z => ?_, I.stack, I.stkFree⟩
    · show ∃ c, ce.cells.lookup y = some c
      have key : ∀ k, sc.names.lookup y = some k → (k = .cell ∨ k = .free) → ∃ c, ce.cells.lookup y = some c := fun k hk hk' => by
        rcases hk' with rfl | rfl
        · exact absurd rfl (hcell _ (PySem.mem_of_lookup hk))
        · obtain ⟨c, h1, _⟩ := look hk
          exact ⟨c, h1⟩
      rcases hy with hy | hy
      · exact key _ (by have hy' : ce.scope.names.lookup y = some .cell := hy; rw [eS] at hy'; exact hy') (.inl rfl)
      · exact key _ (by have hy' : ce.scope.names.lookup y = some .free := hy; rw [eS] at hy'; exact hy') (.inr rfl)
    · show b ≠ ce.locals
      rw [eL]; exact Nat.ne_of_lt (hfp b hb).2
    · exact (hfp b hb).1.2.2.2.2.1 y c (mem e).1 z
    · rcases (hfp b hb).1.2.2.2.1 with z | z
      · exact I.ok.noex b ob e z
      · exact absurd (Nat.lt_of_lt_of_le (Heap.lt_size e) (Nat.le_trans I.ok.bsz z)) (Nat.lt_irrefl _)
    · rcases List.mem_cons.mp (I.stkSub b z) with z | z
      · exact (hfp b hb).1.2.1 z
      · exact (hfp b hb).1.2.2.1 z
  refine ⟨okG, hos, hbare, Un.kept kp, ⟨_, by show Heap.Ns _ ce.locals _; rw [eL]; exact hns, fun i y av e1 e2 e3 => ?_⟩, fun y c e => ?_, ?_, fun y c e => ?_, fun q hq => ?_, I.hok.kept kp, by rw [wipe_length]; exact I.len⟩
  · obtain ⟨e2, hne⟩ := wipe_some e2
    have e3 : Vis ce.scope y := e3
    rw [eS] at e3
    have no : ¬ (sc.names.lookup y = some .local ∨ sc.names.lookup y = some .cell) := fun hh => by
      have hm : ∃ k, (y, k) ∈ sc.names ∧ (k = NameKind.local ∨ k = NameKind.cell) := by
        rcases hh with hh | hh
        · exact ⟨_, PySem.mem_of_lookup hh, .inl rfl⟩
        · exact ⟨_, PySem.mem_of_lookup hh, .inr rfl⟩
      obtain ⟨k, hm, hk⟩ := hm
      rcases B.own _ hm hk with e' | e'
      · obtain ⟨q, hq, hqy⟩ := List.mem_map.mp e'
        have e3 := B.ix q hq
        have hqy : q.1 = y := hqy
        rw [hqy] at e3
        exact hne (List.mem_map.mpr ⟨q, hq, nodup_ix hN e3 e1⟩)
      · exact e' (List.mem_of_getElem? e1)
    have fr : sc.names.lookup y = some .free := by
      rcases e3 with e3 | e3 | e3
      · exact absurd (.inl e3) no
      · exact absurd (.inr e3) no
      · exact e3
    obtain ⟨m, hn, hl⟩ := I.loc
    have hvis : Vis X.env.scope y := (B.free _ (PySem.mem_of_lookup fr) rfl).elim (fun k => .inr (.inl k)) (fun k => .inr (.inr k))
    obtain ⟨w, r, q⟩ := hl i y av e1 e2 hvis
    obtain ⟨c, h1, h2⟩ := look fr
    refine ⟨w, r, .inr ⟨.inr (by show ce.scope.names.lookup y = _; rw [eS]; exact fr), c, h1, ?_⟩⟩
    rcases q with ⟨k, _⟩ | ⟨_, c', e', z⟩
    · have k : X.env.scope.names.lookup y = some .local := k
      rcases B.free _ (PySem.mem_of_lookup fr) rfl with k' | k' <;> rw [show X.env.scope.names.lookup y = _ from k'] at k <;> cases k
    · rw [h2] at e'; cases e'
      exact z.keeps kp
  · obtain ⟨w, z⟩ := I.cell y c (mem e).1
    exact ⟨w, z.keeps kp⟩
  · show H ce.locals = none
    rw [eL]; exact I.hok.fresh (Nat.le_refl _)
  · exact I.freeC y c (mem e).1
  · have hq : q = (a, o) := by simpa using hq
    subst hq
    refine ⟨hao, I.hok.fresh (Nat.le_of_lt ha), ?_, ?_, hod⟩
    · show a ≠ ce.locals
      rw [eL]; exact Nat.ne_of_gt ha
    · exact fun hb => absurd (hfsz a hb) (Nat.not_lt_of_le (Nat.le_of_lt ha))

/-- back to the walker's own context -/
theorem gen_back {ce : Env} {A' : Around} {fp : List Addr} {pn pins' : List (Addr × Obj)} {σ' : L2.St} {H H' : Hp} {s s' : Shared} (I : Inv X pins σ H s) (hfp : ∀ b ∈ fp, FpOk X pins H b) (J : Inv (gen X s H ce A' fp pn) pins' σ' H' s') : Inv X pins σ H' s' :=
  I.call' (ch := fp) J.os J.base J.hok J.bare fun b hb => ⟨(hfp b hb).2.2.2.1, (hfp b hb).2.1, (hfp b hb).2.2.2.2.1, (hfp b hb).2.2.2.2.2⟩

/-- what stands behind the generator's making -/
def Made (X : Cx) (pins : List (Addr × Obj)) (σ : L2.St) (sc : Scope) (own : List (Str × Nat)) (cd : Value → Env → Code) (tg : Expr) (J : It) (H2 : Hp) (a : Addr) (s5 : Shared) : Prop :=
  ∃ (s4 : Shared) (cl : List (Str × Addr)) (cv : Value) (fp : List Addr) (it : Addr) (tn : Nat → Heap → Prop) (g : Nat) (o : Obj), Inv X pins σ H2 s4 ∧ Inv X pins σ H2 s5 ∧ Turn X.prog X.w X.K tg J fp it tn ∧ tn 0 s5.heap ∧ (∀ b ∈ fp, FpOk X pins H2 b ∧ b < s4.heap.objs.size) ∧
    s5.heap.get? a = some o ∧ (∀ h : Heap, h.get? a = some o → h.IsGen a g) ∧ (∀ v, o.data ≠ .cell v) ∧ s4.heap.objs.size < a ∧ a < s5.heap.objs.size ∧ s5.gens[g]? = some (.fresh (cd (.ref it) (genEnv sc cl s4.heap.objs.size cv builtinsNs X.env))) ∧ (∀ x c, cl.lookup x = some c → c < s4.heap.objs.size) ∧
    ∀ A' : Around, A'.handled = none → A'.frames = some (genEnv sc cl s4.heap.objs.size cv builtinsNs X.env :: X.stack) → Inv (gen X s4 H2 (genEnv sc cl s4.heap.objs.size cv builtinsNs X.env) A' fp [(a, o)]) [] (wipe σ (own.map (·.2))) H2 s5

theorem gx_make {c P : Addr} {el tg it0 : Expr} {cs : List Expr} {more : List Comprehension} {sc : Scope} {p : Pos} {own : List (Str × Nat)} {wi : TI} {k : Nat} {R : It → Hp → Prop} {Q' : Value → Shared → Prop}
    (hr : Room k X.A) (TB : GxR.TabB X.base X.mg c P) (hcode : X.env.code = .ref c) (B : BlkOk X.N X.env.scope sc own) (hN : X.N.Nodup) (hcell : ∀ y ∈ sc.names, y.2 ≠ .cell) (hdl : sc.names.lookup (".0" : Str) = some NameKind.local) (hdot : (".0" : Str) ∉ X.N)
    (hco : sc.isCoroutine = false) (hi : PI X tg it0 wi) (hs : ∀ v, genFold it0 X.env v = pure v) (I : Inv X pins σ H s)
    (h : wi σ H fun J H1 => GxR.TabG H1 P ∧ ∀ H2, GxR.Tabbed P H1 H2 → R J H2)
    (hQ : ∀ J H2 a s5, R J H2 → Made X pins σ sc own (fun itv ce => .compStart (.GeneratorExp el (⟨tg, it0, cs, 0⟩ :: more) sc p) 0 itv .none ce) tg J H2 a s5 → Q' (.ref a) s5) :
    wpAny (model X.prog X.w) X.A (eval (.GeneratorExp el (⟨tg, it0, cs, 0⟩ :: more) sc p) X.env) Q' X.xe s := by
  have hfree : ∀ y ∈ sc.names, y.2 = .free → ∃ c, X.env.cells.lookup y.1 = some c := fun y hy e => by
    rcases B.free y hy e with k | k
    · exact I.ok.has _ (.inl k)
    · exact I.ok.has _ (.inr k)
  rw [eval_gx _ _ _ _ _ _ _ _ hco, closure_ok hfree]
  refine wpAny_bind (thn (hi.run pins s σ H _ I h) fun xv s1 h1 => ?_)
  refine wpAny_bind (wpAny_standAt (wpAny_bind (wpAny_of_eq (hs xv) (wpAny_bind (wpAny_holding (thn h1 fun itv s2 h2 => ?_))))))
  obtain ⟨it, fp, tn, J, H1, e, I2, T, st2, f2, ⟨ps, hP, ht⟩, q⟩ := h2
  subst e
  refine wpAny_bind (wpAny_enterFrame I2.nolimit hr.depth (wpAny_bind (wpAny_pure ?_)))
  have hPs : s2.heap.get? P = some { cls := .none, data := .fields ps } := I2.hok P _ hP
  have cd : PySem.W.CodeHd s2.heap c P := TB.code.keeps fun b u e => I2.bk b u e
  have sz2 : ∀ b ∈ fp, b < s2.heap.objs.size := fun b hb => by
    obtain ⟨o, e, _⟩ := T.obj _ _ st2 b hb
    exact Heap.lt_size e
  have cont : ∀ (code : Value) (h3 : Heap) (tk : Nat) (ps' : Array Value), Heap.ExtBut P s2.heap h3 → s2.heap.objs.size ≤ h3.objs.size → h3.get? P = some { cls := .none, data := .fields ps' } → (∃ more, ps' = ps ++ more) → TriplesOk ps'.toList →
      wpAny (model X.prog X.w) X.A (do
        let bi ← builtinsFor X.env.globals X.env.builtins
        let ce ← newFunctionEnv sc X.env.globals (cloFrom X.env.cells sc.names []) [(".0", Value.ref it)] (X.env.qual ++ "<genexpr>.") none code none bi
        newGenerator (.compStart (.GeneratorExp el (⟨tg, it0, cs, 0⟩ :: more) sc p) 0 (.ref it) .none ce) "<genexpr>" (X.env.qual ++ "<genexpr>")) Q' X.xe { s2 with heap := h3, toks := tk } := by
    rintro code h3 tk ps' hx hsz hP3 ⟨mr, rfl⟩ ht3
    obtain ⟨bm, ob, e1, e2, e3, e4, e5, e6, e7, e8⟩ := TB.bm
    have I4 : Inv X pins σ (upd H1 P (.tbl (ps ++ mr))) { s2 with heap := h3, gens := s2.gens, drawn := s2.drawn, toks := tk } := GxR.inv_tab I2 hP (fun b o hb e => hx b o hb e) hP3 I2.bare
    have hq := q _ ⟨⟨_, upd_same, ht3⟩, fun b hb => upd_ne hb⟩
    have nP : ∀ b ∈ fp, b ≠ P := fun b hb z => by have := (f2 b hb).1; rw [z, hP] at this; cases this
    have f4 : ∀ b ∈ fp, FpOk X pins (upd H1 P (.tbl (ps ++ mr))) b ∧ b < h3.objs.size := fun b hb => ⟨⟨by rw [upd_ne (nP b hb)]; exact (f2 b hb).1, (f2 b hb).2⟩, Nat.lt_of_lt_of_le (sz2 b hb) hsz⟩
    have st4 : tn 0 h3 := T.keep _ _ _ st2 fun b hb o e => hx b o (nP b hb) e
    generalize hs4 : ({ s2 with heap := h3, gens := s2.gens, drawn := s2.drawn, toks := tk } : Shared) = s4 at I4
    have eh : s4.heap = h3 := by rw [← hs4]
    refine wpAny_bind (wpAny_builtinsFor (m := X.mg) (by rw [I4.ok.glob]; exact I4.mod.glob.keeps I4.bk) e1 e2 (I4.bk _ _ e5) e6 e7 e8 ?_)
    have hb0 : ∀ y ∈ ([((".0" : Str), Value.ref it)] : List (Str × Value)), sc.names.lookup y.1 = some NameKind.local := fun y hy => by
      rw [List.mem_singleton.mp hy]; exact hdl
    refine wpAny_bind (wpAny_newFunctionEnv hcell hb0 (fun h' hn' hs' => ?_) B.kind)
    have e0 : (fun y : Str => ([((".0" : Str), Value.ref it)] : List (Str × Value)).reverse.lookup y) = fun y : Str => if y = (".0" : Str) then some (Value.ref it) else none := by
      funext y
      by_cases hy : y = ".0"
      · subst hy; simp
      · simp [List.lookup, show (y == (".0" : Str)) = false by simpa using hy, hy]
    rw [e0] at hn'
    simp only [newGenerator, newFields]
    refine wpAny_bind (wpAny_newGen (wpAny_bind (wpAny_mkText (wpAny_bind (wpAny_mkText (wpAny_newObj_type ?_ (by size_fits)))))))
    have hsz' : h'.objs.size = s4.heap.objs.size + 1 := by rw [hs'.1, Heap.size_push]
    have kp1 : ∀ b o, s4.heap.get? b = some o → h'.get? b = some o := fun b o e => hs'.extBut b o (Nat.ne_of_lt (Heap.lt_size e)) (Heap.get?_push_of_some _ e)
    refine hQ J _ h'.objs.size _ hq ⟨s4, cloFrom X.env.cells sc.names [], code, fp, it, tn, s4.gens.size, _, I4, ?_, T, ?_, by rw [eh]; exact f4, Heap.get?_push_size _ rfl, fun h e => ⟨_, _, _, e, rfl, rfl, rfl⟩, fun v z => (by cases z), by omega, by show _ < (h'.push _).objs.size; rw [Heap.size_push]; exact Nat.lt_succ_self _, Array.getElem?_push_size .., fun y c' hy => ?_, fun A' hA hf => ?_⟩
    · exact I4.call' (ch := []) rfl (Un.kept fun b o e => Heap.get?_push_of_some _ (kp1 b o e)) (I4.hok.kept fun b o e => Heap.get?_push_of_some _ (kp1 b o e)) (AllBare.push I4.bare rfl) fun b hb => nomatch hb
    · exact T.keep _ _ _ (by rw [eh]; exact st4 : tn 0 s4.heap) fun b _ o e => Heap.get?_push_of_some _ (kp1 b o e)
    · rcases cloFrom_mem (PySem.mem_of_lookup hy) with hm | ⟨h1, h2⟩
      · cases hm
      · obtain ⟨c', hc'⟩ := hfree _ h1 rfl
        rw [h2, hc']
        obtain ⟨w, z⟩ := I4.cell _ _ hc'
        exact z.lt
    · exact gen_start I4 B hN hcell (by rw [eh]; exact f4) hA hf (fun b o e => Heap.get?_push_of_some _ (kp1 b o e)) (hn'.push _) rfl (AllBare.push I4.bare rfl) (Heap.get?_push_size _ rfl) (by omega) (fun v z => by cases z) hdot
  cases hf : codeAmong p ps.toList with
  | none =>
    refine wpAny_bind (wpAny_genexprCodeX hcode (cd.code hPs ht) (cd.tab hPs) hf fun c' h' tk hx hge hlt hco' _ htab' _ => ?_)
    obtain ⟨o1, vs, f1, tf, fl, tg', inF, tx, tt, op, _, _, _, _, _, _, _, _, _, htr, _⟩ := hco'
    exact cont _ h' tk _ hx (Nat.le_trans hge (Nat.le_of_lt hlt)) htab'.2 ⟨_, rfl⟩ htr
  | some cv =>
    refine wpAny_bind (wpAny_genexprCode_hit hcode (cd.code hPs ht) hf ?_)
    exact cont cv s2.heap s2.toks ps (Heap.ExtBut.refl _ _) (Nat.le_refl _) hPs ⟨#[], by simp⟩ ht
end
end K33
namespace K33
open PySem PySem.Spec PyProof.Rows GenW L2

section
variable {Y : Cx} {U : Ate} {Yd : Eat} {En : Int → Hp → Prop}
/-- the start -/
theorem seg_gxs {A : Around} {el tg it0 : Expr} {cs : List Expr} {more : List Comprehension} {sc : Scope} {p : Pos} {it : Addr} {fp : List Addr} {tn : Nat → Heap → Prop} {J : It} {ce : Env} {n : Nat} {s₀ s : Shared} {R : GenEnd} {Yp : Protocol} {P : Program} {w : World} {K : PySem.W.Frag} (T : Turn P w K tg J fp it tn) (st : tn 0 s.heap)
    (h : Seg (model P w) A R Yp n s₀ (.compLoop (.GeneratorExp el (⟨tg, it0, cs, 0⟩ :: more) sc p) 0 (.ref it) .none ce) ((model P w).den (.compLoop (.GeneratorExp el (⟨tg, it0, cs, 0⟩ :: more) sc p) 0 (.ref it) .none ce)) [] s) :
    Seg (model P w) A R Yp n s₀ (.compStart (.GeneratorExp el (⟨tg, it0, cs, 0⟩ :: more) sc p) 0 (.ref it) .none ce) ((model P w).den (.compStart (.GeneratorExp el (⟨tg, it0, cs, 0⟩ :: more) sc p) 0 (.ref it) .none ce)) [] s := by
  show Seg _ A R Yp n s₀ _ ((compStart (.GeneratorExp el (⟨tg, it0, cs, 0⟩ :: more) sc p) 0 (.ref it) .none ce).onRaise (leaving ce)) [] s
  unfold compStart
  rw [Sem.onRaise_eq_wrap]
  show Seg _ A R Yp n s₀ _ ((ask >>= _).wrap _ _ _ _) [] s
  refine seg_bind_wrap (wpAny_askSetting ?_)
  split
  · exact seg_again rfl h
  · refine seg_bind_wrap (wpAny_rule ?_)
    show Seg _ A R Yp n s₀ _ ((standAt it0.pos >>= _).wrap _ _ _ _) [] s
    exact seg_bind_wrap (wpAny_standAt (seg_bind_wrap (T.self _ 0 _ _ _ st (seg_again rfl h))))

/-- nothing of the consumer's own -/
def noAte : Ate := ⟨[], fun _ l => l = []⟩
theorem noAte_ok : noAte.Ok Y where
  at_ := fun c l h q hq => by rw [show l = [] from h] at hq; cases hq
  all := fun c l h b hb => by cases hb
  pn := fun q hq hb => by cases hb
  young := fun b hb => by cases hb
  noex := fun b hb => by cases hb
theorem AI.of {c : Int} {ip : List (Addr × Obj)} {σ : L2.St} {H : Hp} {s : Shared} (I : Inv Y ip σ H s) : AI Y noAte c ip σ H s := ⟨[], rfl, I⟩
/-- the state but for the generators and the tokens -/
def Like (s s' : Shared) : Prop := s'.os = s.os ∧ AllBare s'.gens ∧ ∀ b o, s.heap.get? b = some o → s'.heap.get? b = some o
theorem Like.inv {pins : List (Addr × Obj)} {σ : L2.St} {H : Hp} {s s' : Shared} (I : Inv Y pins σ H s) (h : Like s s') : Inv Y pins σ H s' :=
  I.call' (ch := []) h.1 (Un.kept h.2.2) (I.hok.kept h.2.2) h.2.1 fun b hb => nomatch hb

section
variable {A : Around} {a : Addr} {g : Nat} {R : Result → Shared → Prop} {Qt : Hp → Prop}
/-- any, all: yes the truth that ends the walk -/
def eatB (yes : Bool) (Qt : Hp → Prop) : Eat := fun c y H N => ∃ b, y = .bl b ∧ if b = yes then Qt H else N c
theorem any_loop (hh : A.handled = none) (hd : A.depth < recursionLimit)
    (gen_ : ∀ ip σ H s, Inv Y ip σ H s → s.heap.IsGen a g)
    (hend : ∀ σ H s s', Inv Y [] σ H s → En 0 H → Like s s' → R (.ok (.ret (.bool false))) s')
    (hyes : ∀ ip σ H s s', Inv Y ip σ H s → Qt H → Like s s' → R (.ok (.ret (.bool true))) s') (hc0 : ∀ c c' H, En c H → En c' H) :
    ∀ (n : Nat) (s : Shared), s.heap.IsGen a g → s.heap.NoLimit → (∃ gs, s.gens[g]? = some gs ∧ gs.Goes (model Y.prog Y.w) A.in1.in1 (GxR Y noAte En) (GxY Y noAte (eatB true Qt)) n (.send .none) (s.setGen g .running)) →
      codeAny (model Y.prog Y.w) A (.builtin "any.loop" ⟨[.ref a], []⟩) R s := by
  intro n
  induction n with
  | zero =>
    intro s hg hl ⟨gs, hgs, hgo⟩
    refine codeAny_builtin F.entry_any_loop ?_
    rw [Around.under_plainId F.plain_any_loop _]
    show wpAny _ A.in1 (pyNext (.ref a) >>= _) _ _ s
    refine wpAny_bind (wpAny_pyNext_genexpQ (A := A.in1) (P := fun _ s₀ s => ∃ c σ H, noAte.At c s₀ ∧ AI Y noAte c [] σ H s ∧ En c H) hh hl hd hg hgs hgo (fun v s1 gs' hb hv => ?_) fun s1 hp h' hk => ?_)
    · obtain ⟨c, x, ip, σ, H, Nx, _, rx, hI, ⟨b, rfl, hq⟩, hk⟩ := hv
      obtain rfl : v = .bool b := rx
      obtain ⟨l, hl', I⟩ := hI
      by_cases hbt : b = true
      · subst hbt
        rw [if_pos rfl] at hq
        refine wpAny_bind (wpAny_holding (wpAny_truthy_bool (wpAny_bind (wpAny_letGo ?_))))
        rw [if_pos rfl]
        exact wpAny_bind (wpAny_rule (wpAny_pure (hyes _ _ _ _ _ I hq ⟨rfl, allBare_setGen I.bare hb, fun _ _ e => e⟩)))
      · rw [if_neg hbt] at hq
        exact (hk c s1 hq ⟨rfl, I.bare, fun _ _ _ e => e, [], rfl, fun _ hq => nomatch hq⟩).elim
    · obtain ⟨c, σ, H, _, ⟨l, hl', I⟩, en⟩ := hp
      obtain rfl : l = [] := hl'
      exact wpAny_bind (wpAny_rule (wpAny_pure (hend σ H s1 _ I (hc0 _ _ _ en) ⟨rfl, allBare_setGen I.bare rfl, hk⟩)))
  | succ n ih =>
    intro s hg hl ⟨gs, hgs, hgo⟩
    have hgl : g < s.gens.size := (Array.getElem?_eq_some_iff.mp hgs).1
    refine codeAny_builtin F.entry_any_loop ?_
    rw [Around.under_plainId F.plain_any_loop _]
    show wpAny _ A.in1 (pyNext (.ref a) >>= _) _ _ s
    refine wpAny_bind (wpAny_gsz (n := g + 1) hgl (wpAny_pyNext_genexpQ (A := A.in1) (P := fun _ s₀ s => ∃ c σ H, noAte.At c s₀ ∧ AI Y noAte c [] σ H s ∧ En c H) hh hl hd hg hgs hgo (fun v s1 gs' hb hv => ?_) fun s1 hp h' hk => ?_))
    · intro hsz
      obtain ⟨c, x, ip, σ, H, Nx, _, rx, hI, ⟨b, rfl, hq⟩, hk⟩ := hv
      obtain rfl : v = .bool b := rx
      obtain ⟨l, hl', I⟩ := hI
      refine wpAny_bind (wpAny_holding (wpAny_truthy_bool (wpAny_bind (wpAny_letGo ?_))))
      by_cases hbt : b = true
      · subst hbt
        rw [if_pos rfl] at hq ⊢
        exact wpAny_bind (wpAny_rule (wpAny_pure (hyes _ _ _ _ _ I hq ⟨rfl, allBare_setGen I.bare hb, fun _ _ e => e⟩)))
      · rw [if_neg hbt] at hq ⊢
        have hsz1 : g < s1.gens.size := by
          have q : (s1.setGen g gs').gens.size = s1.gens.size := setGen_size _ _ _
          have hsz' : g + 1 ≤ (s1.setGen g gs').gens.size := hsz
          omega
        refine wpAny_pure ⟨plainId_quiet F.plain_any_loop _, ih _ (show (s1.setGen g gs').heap.IsGen a g from gen_ _ _ _ s1 I) (show (s1.setGen g gs').heap.NoLimit from I.nolimit) ⟨gs', setGen_at hsz1, hk c _ hq ⟨rfl, allBare_setGen (s := s1.setGen g gs') (allBare_setGen I.bare hb) rfl, fun _ _ _ e => e, [], rfl, fun _ hq => nomatch hq⟩⟩⟩
    · intro hsz
      obtain ⟨c, σ, H, _, ⟨l, hl', I⟩, en⟩ := hp
      obtain rfl : l = [] := hl'
      exact wpAny_bind (wpAny_rule (wpAny_pure (hend σ H s1 _ I (hc0 _ _ _ en) ⟨rfl, allBare_setGen I.bare rfl, hk⟩)))
theorem all_loop (hh : A.handled = none) (hd : A.depth < recursionLimit)
    (gen_ : ∀ ip σ H s, Inv Y ip σ H s → s.heap.IsGen a g)
    (hend : ∀ σ H s s', Inv Y [] σ H s → En 0 H → Like s s' → R (.ok (.ret (.bool true))) s')
    (hyes : ∀ ip σ H s s', Inv Y ip σ H s → Qt H → Like s s' → R (.ok (.ret (.bool false))) s') (hc0 : ∀ c c' H, En c H → En c' H) :
    ∀ (n : Nat) (s : Shared), s.heap.IsGen a g → s.heap.NoLimit → (∃ gs, s.gens[g]? = some gs ∧ gs.Goes (model Y.prog Y.w) A.in1.in1 (GxR Y noAte En) (GxY Y noAte (eatB false Qt)) n (.send .none) (s.setGen g .running)) →
      codeAny (model Y.prog Y.w) A (.builtin "all.loop" ⟨[.ref a], []⟩) R s := by
  intro n
  induction n with
  | zero =>
    intro s hg hl ⟨gs, hgs, hgo⟩
    refine codeAny_builtin F.entry_all_loop ?_
    rw [Around.under_plainId F.plain_all_loop _]
    show wpAny _ A.in1 (pyNext (.ref a) >>= _) _ _ s
    refine wpAny_bind (wpAny_pyNext_genexpQ (A := A.in1) (P := fun _ s₀ s => ∃ c σ H, noAte.At c s₀ ∧ AI Y noAte c [] σ H s ∧ En c H) hh hl hd hg hgs hgo (fun v s1 gs' hb hv => ?_) fun s1 hp h' hk => ?_)
    · obtain ⟨c, x, ip, σ, H, Nx, _, rx, hI, ⟨b, rfl, hq⟩, hk⟩ := hv
      obtain rfl : v = .bool b := rx
      obtain ⟨l, hl', I⟩ := hI
      by_cases hbt : b = false
      · subst hbt
        rw [if_pos rfl] at hq
        refine wpAny_bind (wpAny_holding (wpAny_truthy_bool (wpAny_bind (wpAny_letGo ?_))))
        rw [if_neg Bool.false_ne_true]
        exact wpAny_bind (wpAny_rule (wpAny_pure (hyes _ _ _ _ _ I hq ⟨rfl, allBare_setGen I.bare hb, fun _ _ e => e⟩)))
      · rw [if_neg hbt] at hq
        exact (hk c s1 hq ⟨rfl, I.bare, fun _ _ _ e => e, [], rfl, fun _ hq => nomatch hq⟩).elim
    · obtain ⟨c, σ, H, _, ⟨l, hl', I⟩, en⟩ := hp
      obtain rfl : l = [] := hl'
      exact wpAny_bind (wpAny_rule (wpAny_pure (hend σ H s1 _ I (hc0 _ _ _ en) ⟨rfl, allBare_setGen I.bare rfl, hk⟩)))
  | succ n ih =>
    intro s hg hl ⟨gs, hgs, hgo⟩
    have hgl : g < s.gens.size := (Array.getElem?_eq_some_iff.mp hgs).1
    refine codeAny_builtin F.entry_all_loop ?_
    rw [Around.under_plainId F.plain_all_loop _]
    show wpAny _ A.in1 (pyNext (.ref a) >>= _) _ _ s
    refine wpAny_bind (wpAny_gsz (n := g + 1) hgl (wpAny_pyNext_genexpQ (A := A.in1) (P := fun _ s₀ s => ∃ c σ H, noAte.At c s₀ ∧ AI Y noAte c [] σ H s ∧ En c H) hh hl hd hg hgs hgo (fun v s1 gs' hb hv => ?_) fun s1 hp h' hk => ?_))
    · intro hsz
      obtain ⟨c, x, ip, σ, H, Nx, _, rx, hI, ⟨b, rfl, hq⟩, hk⟩ := hv
      obtain rfl : v = .bool b := rx
      obtain ⟨l, hl', I⟩ := hI
      refine wpAny_bind (wpAny_holding (wpAny_truthy_bool (wpAny_bind (wpAny_letGo ?_))))
      cases b with
      | false =>
        rw [if_pos rfl] at hq
        rw [if_neg Bool.false_ne_true]
        exact wpAny_bind (wpAny_rule (wpAny_pure (hyes _ _ _ _ _ I hq ⟨rfl, allBare_setGen I.bare hb, fun _ _ e => e⟩)))
      | true =>
        rw [if_neg (fun h => nomatch h)] at hq
        rw [if_pos rfl]
        have hsz1 : g < s1.gens.size := by
          have q : (s1.setGen g gs').gens.size = s1.gens.size := setGen_size _ _ _
          have hsz' : g + 1 ≤ (s1.setGen g gs').gens.size := hsz
          omega
        refine wpAny_pure ⟨plainId_quiet F.plain_all_loop _, ih _ (show (s1.setGen g gs').heap.IsGen a g from gen_ _ _ _ s1 I) (show (s1.setGen g gs').heap.NoLimit from I.nolimit) ⟨gs', setGen_at hsz1, hk c _ hq ⟨rfl, allBare_setGen (s := s1.setGen g gs') (allBare_setGen I.bare hb) rfl, fun _ _ _ e => e, [], rfl, fun _ hq => nomatch hq⟩⟩⟩
    · intro hsz
      obtain ⟨c, σ, H, _, ⟨l, hl', I⟩, en⟩ := hp
      obtain rfl : l = [] := hl'
      exact wpAny_bind (wpAny_rule (wpAny_pure (hend σ H s1 _ I (hc0 _ _ _ en) ⟨rfl, allBare_setGen I.bare rfl, hk⟩)))
end
end
end K33
namespace K33
open PySem PySem.Spec PyProof.Rows GenW L2

theorem over_gx {A : Around} {el : Expr} {gs : List Comprehension} {sc : Scope} {p : Pos} {itv : Value} {ce : Env} : A.over (.compLoop (.GeneratorExp el gs sc p) 0 itv .none ce) [] = A.deeper ce := by
  first
    | rfl
    | (obtain ⟨hd, d, fr, gd, un⟩ := A; simp [Around.over, Around.deeper, marksOver, frameCount, unitsOf, envsOf, guardsOf, pushEnvs, pushGuards, Code.envs, Code.env?, Code.isFrame, Code.guards, Code.isGuard, Code.weight, Code.frames, Code.isCreation, Code.isCaller, Code.cUnits])
structure Ate.Wf (U : Ate) : Prop where
  at_ : ∀ c l, U.st c l → ∀ p ∈ l, p.1 ∈ U.cs ∧ ∀ v, p.2.data ≠ .cell v
  all : ∀ c l, U.st c l → ∀ b ∈ U.cs, ∃ o, (b, o) ∈ l
section
variable {X : Cx} {pins : List (Addr × Obj)} {σ : L2.St} {H : Hp} {s : Shared}
abbrev genY (X : Cx) (sc : Scope) (s : Shared) (H : Hp) (cl : List (Str × Addr)) (C : Addr) (cv : Value) (A : Around) (fp : List Addr) (pn : List (Addr × Obj)) : Cx := gen X s H (genEnv sc cl C cv builtinsNs X.env) A fp pn
/-- a generator that will run: Y its context, n its room -/
def Runs1 (X : Cx) (pins : List (Addr × Obj)) (σ : L2.St) (H2 : Hp) (a : Addr) (s5 : Shared) (Yd : Eat) (En : Int → Hp → Prop) : Prop :=
  ∃ (Y : Cx) (g n : Nat), Y.prog = X.prog ∧ Y.w = X.w ∧ Inv X pins σ H2 s5 ∧ s5.heap.IsGen a g ∧ (∀ ip σ' H' s', Inv Y ip σ' H' s' → s'.heap.IsGen a g ∧ Inv X pins σ H' s') ∧
    ∀ (U : Ate) (s6 : Shared), U.Wf → (∀ b ∈ U.cs, s5.heap.objs.size ≤ b) → Like s5 s6 → (∃ l, U.st 0 l ∧ ∀ p ∈ l, s6.heap.get? p.1 = some p.2) → s6.gens[g]? = s5.gens[g]? →
      U.Ok Y ∧ ∃ gs, s6.gens[g]? = some gs ∧ gs.Goes (model Y.prog Y.w) X.A.in1.in1 (GxR Y U En) (GxY Y U Yd) n (.send .none) (s6.setGen g .running)

theorem made_runs {own : List (Str × Nat)} {cd : Value → Env → Code} {tg : Expr} {J : It} {H2 : Hp} {a : Addr} {s5 : Shared} {sc : Scope} {k : Nat} {Yd : Eat} {En : Int → Hp → Prop} (hr : Room (k + 3) X.A) (M : Made X pins σ sc own cd tg J H2 a s5)
    (h : ∀ (s4 : Shared) (cl : List (Str × Addr)) (C : Addr) (cv : Value) (A' : Around) (fp : List Addr) (it : Addr) (tn : Nat → Heap → Prop) (pn : List (Addr × Obj)), Room k A' → X.A.in1.in1.deeper (genEnv sc cl C cv builtinsNs X.env) = A' → Turn X.prog X.w X.K tg J fp it tn → (∀ b ∈ fp, H2 b = none ∧ ∀ q ∈ pn, q.1 ≠ b) →
      ∃ n, ∀ (U : Ate) (s₀ s6 : Shared), U.Ok (genY X sc s4 H2 cl C cv A' fp pn) → U.At 0 s₀ → AI (genY X sc s4 H2 cl C cv A' fp pn) U 0 [] (wipe σ (own.map (·.2))) H2 s6 → tn 0 s6.heap →
        Seg (model X.prog X.w) X.A.in1.in1 (GxR (genY X sc s4 H2 cl C cv A' fp pn) U En) (GxY (genY X sc s4 H2 cl C cv A' fp pn) U Yd) n s₀ (cd (.ref it) (genEnv sc cl C cv builtinsNs X.env)) ((model X.prog X.w).den (cd (.ref it) (genEnv sc cl C cv builtinsNs X.env))) [] s6) :
    Runs1 X pins σ H2 a s5 Yd En := by
  obtain ⟨s4, cl, cv, fp, it, tn, g, o, I4, I5, T, st, hfp, ha, hgen, hod, ha1, ha2, hgs, hcl, mk⟩ := M
  generalize hce : genEnv sc cl s4.heap.objs.size cv builtinsNs X.env = ce at mk hgs
  have hrA : Room k (X.A.in1.in1.deeper ce) := hr.in1.in1.deeper ce
  have IY := mk (X.A.in1.in1.deeper ce) hrA.hd (Around.frames_deeper (show X.A.in1.in1.frames = some X.stack from I4.ok.frames))
  have hne : ∀ b ∈ fp, a ≠ b := fun b hb e => by exact absurd (e ▸ (hfp b hb).2) (Nat.not_lt_of_le (Nat.le_of_lt ha1))
  obtain ⟨n, hn⟩ := h s4 cl s4.heap.objs.size cv (X.A.in1.in1.deeper ce) fp it tn [(a, o)] hrA (by rw [hce]) T fun b hb => ⟨(hfp b hb).1.1, fun q hq => by rw [List.mem_singleton.mp hq]; exact hne b hb⟩
  simp only [genY, hce] at hn
  refine ⟨gen X s4 H2 ce (X.A.in1.in1.deeper ce) fp [(a, o)], g, n, rfl, rfl, I5, hgen _ ha, fun ip σ' H' s' I' => ⟨hgen _ (I'.pin (a, o) (List.mem_append_left _ (List.mem_singleton.mpr rfl))).1, gen_back I4 (fun b hb => (hfp b hb).1) I'⟩, fun U s6 wf hy lk ⟨l, hl, hls⟩ hg6 => ?_⟩
  have eL : ce.locals = s4.heap.objs.size := by rw [← hce]; rfl
  have eC : ce.cells = cl := by rw [← hce]; rfl
  have uok : U.Ok (gen X s4 H2 ce (X.A.in1.in1.deeper ce) fp [(a, o)]) := {
    at_ := wf.at_
    all := wf.all
    pn := fun q hq hb => by
      have hq : q = (a, o) := by simpa using hq
      rw [hq] at hb
      exact absurd ha2 (Nat.not_lt_of_le (hy _ hb))
    young := fun b hb => ⟨Nat.le_trans (Nat.le_of_lt (Nat.lt_trans ha1 ha2)) (hy b hb), fun e => by
        have h1 := hy b hb
        have e : b = ce.locals := e
        rw [e, eL] at h1
        exact absurd (Nat.lt_trans ha1 ha2) (Nat.not_lt_of_le h1), fun x c e z => by
        have e : ce.cells.lookup x = some c := e
        rw [eC] at e
        have h1 := hcl x c e
        rw [z] at h1
        exact absurd (Nat.lt_trans h1 (Nat.lt_trans ha1 ha2)) (Nat.not_lt_of_le (hy b hb))⟩
    noex := fun b hb hm => absurd (Nat.lt_trans (hfp b hm).2 (Nat.lt_trans ha1 ha2)) (Nat.not_lt_of_le (hy b hb)) }
  refine ⟨uok, _, hg6.trans hgs, ?_⟩
  have lk' : Like s5 (s6.setGen g .running) := ⟨lk.1, allBare_setGen lk.2.1 rfl, lk.2.2⟩
  have I6 := Like.inv IY lk'
  refine ⟨rfl, hn U _ _ uok ⟨l, hl, hls⟩ ⟨l, hl, I6.pins_of fun q hq => ?_⟩ (T.keep _ _ _ st fun b _ o e => lk.2.2 b o e)⟩
  rcases List.mem_append.mp hq with hq | hq
  · obtain ⟨h1, h2⟩ := wf.at_ 0 l hl q hq
    have h3 := hy _ h1
    exact ⟨hls q hq, IY.hok.fresh h3, fun e => absurd IY.lt (Nat.not_lt_of_le (by rw [← e]; exact h3)), IY.nofs h3, h2⟩
  · cases hq

variable {el tg it0 : Expr} {cs : List Expr} {sc : Scope} {p : Pos} {own : List (Str × Nat)} {k : Nat} {J : It} {H2 : Hp} {a : Addr} {s5 : Shared} {g : TG} {tt : TT} {te : TE} {Yd : Eat} {En : Int → Hp → Prop}
theorem runs_gx1 (hr : Room (k + 3) X.A) (hc : X.calm = true) (hco : sc.isCoroutine = false) (M : Made X pins σ sc own (fun itv ce => .compStart (.GeneratorExp el [⟨tg, it0, cs, 0⟩] sc p) 0 itv .none ce) tg J H2 a s5)
    (hg : ∀ s H cl C cv A' fp pn, Room k A' → PG (genY X sc s H cl C cv A' fp pn) tg g) (ht : ∀ s H cl C cv A' fp pn, Room k A' → PTs (genY X sc s H cl C cv A' fp pn) cs tt) (he : ∀ s H cl C cv A' fp pn, Room k A' → PE (genY X sc s H cl C cv A' fp pn) el te)
    (h : Gx1 J g tt te (own.map (·.2)) (wipe σ (own.map (·.2))) Yd En H2) : Runs1 X pins σ H2 a s5 Yd En := by
  refine made_runs hr M fun s4 cl C cv A' fp it tn pn hrA eA T hfp => ?_
  obtain ⟨W, ⟨m, wm⟩, turn⟩ := h
  refine ⟨m + 1, fun U s₀ s6 uok h0 hI st => seg_gxs T st ?_⟩
  exact seg_gx1 (Y := genY X sc s4 H2 cl C cv A' fp pn) (vs := own.map (·.2)) (σ₀ := wipe σ (own.map (·.2))) (by rw [over_gx]; exact eA) hco hc rfl uok (fun b hb => ⟨hb, (hfp b hb).2⟩) T (hg _ _ _ _ _ _ _ _ hrA) (ht _ _ _ _ _ _ _ _ hrA) (he _ _ _ _ _ _ _ _ hrA) W turn m 0 0 (m + 1) s₀ s6 H2 (Nat.lt_succ_self _) wm h0 hI st fun b hb => (hfp b hb).1
theorem runs_gx2 {t1 i1 : Expr} {c1 : List Expr} {w1 : TI} {g1 : TG} {tt1 : TT} {vs1 : List Nat} (hr : Room (k + 3) X.A) (hc : X.calm = true) (hco : sc.isCoroutine = false) (M : Made X pins σ sc own (fun itv ce => .compStart (.GeneratorExp el [⟨tg, it0, cs, 0⟩, ⟨t1, i1, c1, 0⟩] sc p) 0 itv .none ce) tg J H2 a s5)
    (hg : ∀ s H cl C cv A' fp pn, Room k A' → PG (genY X sc s H cl C cv A' fp pn) tg g) (ht : ∀ s H cl C cv A' fp pn, Room k A' → PTs (genY X sc s H cl C cv A' fp pn) cs tt) (he : ∀ s H cl C cv A' fp pn, Room k A' → PE (genY X sc s H cl C cv A' fp pn) el te)
    (hi1 : ∀ s H cl C cv A' fp pn, Room k A' → PI (genY X sc s H cl C cv A' fp pn) t1 i1 w1) (hg1 : ∀ s H cl C cv A' fp pn, Room k A' → PG (genY X sc s H cl C cv A' fp pn) t1 g1) (ht1 : ∀ s H cl C cv A' fp pn, Room k A' → PTs (genY X sc s H cl C cv A' fp pn) c1 tt1)
    (hs1 : ∀ en x, foldedSetIterable i1 en x = pure x) (hv : ∀ j ∈ vs1, j ∈ own.map (·.2))
    (h : Gx2 J g tt w1 g1 tt1 te (own.map (·.2)) vs1 (wipe σ (own.map (·.2))) Yd En H2) : Runs1 X pins σ H2 a s5 Yd En := by
  refine made_runs hr M fun s4 cl C cv A' fp it tn pn hrA eA T hfp => ?_
  obtain ⟨m, hm⟩ := seg_gx2 (Y := genY X sc s4 H2 cl C cv A' fp pn) (A := X.A.in1.in1) (it := it) (tn := tn) (fp := fp) (el := el) (tg := tg) (it0 := it0) (cs := cs) (sc := sc) (p := p) (vs := own.map (·.2)) (vs1 := vs1) (σ₀ := wipe σ (own.map (·.2))) (by rw [over_gx]; exact eA) hco hc rfl (fun b hb => ⟨hb, (hfp b hb).2⟩) T (hg _ _ _ _ _ _ _ _ hrA) (ht _ _ _ _ _ _ _ _ hrA) (he _ _ _ _ _ _ _ _ hrA) (hi1 _ _ _ _ _ _ _ _ hrA) (hg1 _ _ _ _ _ _ _ _ hrA) (ht1 _ _ _ _ _ _ _ _ hrA) (hs1 _) hv h
  exact ⟨m + 1, fun U s₀ s6 uok h0 hI st => seg_gxs T st (hm U uok (m + 1) s₀ s6 (Nat.lt_succ_self _) h0 hI st fun b hb => (hfp b hb).1)⟩
end
end K33
namespace K33
open PySem PySem.Spec PyProof.Rows GenW L2
section
variable {X : Cx} {pins : List (Addr × Obj)} {σ : L2.St} {H : Hp} {s : Shared}
/-- a generator expression that runs: what Yd, En want of it -/
abbrev TGx := L2.St → Hp → Eat → (Int → Hp → Prop) → Prop
structure PX (X : Cx) (e : Expr) (t : TGx) : Prop where
  run : ∀ (pins : List (Addr × Obj)) (s : Shared) (σ : L2.St) (H : Hp) (Yd : Eat) (En : Int → Hp → Prop) (Q' : Value → Shared → Prop), Inv X pins σ H s → t σ H Yd En → (∀ H2 a s5, Runs1 X pins σ H2 a s5 Yd En → Q' (.ref a) s5) → wpAny (model X.prog X.w) X.A (eval e X.env) Q' X.xe s

variable {c P : Addr} {el tg it0 : Expr} {cs : List Expr} {sc : Scope} {p : Pos} {own : List (Str × Nat)} {wi : TI} {k : Nat} {g : TG} {tt : TT} {te : TE}
def tGx1 (P : Addr) (wi : TI) (g : TG) (tt : TT) (te : TE) (vs : List Nat) : TGx := fun σ H Yd En => wi σ H fun J H1 => GxR.TabG H1 P ∧ ∀ H2, GxR.Tabbed P H1 H2 → Gx1 J g tt te vs (wipe σ vs) Yd En H2
def tGx2 (P : Addr) (wi : TI) (g : TG) (tt : TT) (w1 : TI) (g1 : TG) (tt1 : TT) (te : TE) (vs vs1 : List Nat) : TGx := fun σ H Yd En => wi σ H fun J H1 => GxR.TabG H1 P ∧ ∀ H2, GxR.Tabbed P H1 H2 → Gx2 J g tt w1 g1 tt1 te vs vs1 (wipe σ vs) Yd En H2
/-- the scope of a generator expression, and the running def's code -/
structure GxOk (X : Cx) (c P : Addr) (sc : Scope) (own : List (Str × Nat)) (k : Nat) : Prop where
  room : Room (k + 3) X.A
  calm : X.calm = true
  tab : GxR.TabB X.base X.mg c P
  code : X.env.code = .ref c
  blk : BlkOk X.N X.env.scope sc own
  nd : X.N.Nodup
  nocell : ∀ y ∈ sc.names, y.2 ≠ .cell
  dl : sc.names.lookup (".0" : Str) = some NameKind.local
  dot : (".0" : Str) ∉ X.N
  co : sc.isCoroutine = false
theorem px_1 (G : GxOk X c P sc own k) (hi : PI X tg it0 wi) (hs : ∀ v, genFold it0 X.env v = pure v) (hg : ∀ s H cl C cv A' fp pn, Room k A' → PG (genY X sc s H cl C cv A' fp pn) tg g) (ht : ∀ s H cl C cv A' fp pn, Room k A' → PTs (genY X sc s H cl C cv A' fp pn) cs tt)
    (he : ∀ s H cl C cv A' fp pn, Room k A' → PE (genY X sc s H cl C cv A' fp pn) el te) : PX X (.GeneratorExp el [⟨tg, it0, cs, 0⟩] sc p) (tGx1 P wi g tt te (own.map (·.2))) :=
  ⟨fun pins s σ H Yd En Q' I h hQ => gx_make G.room G.tab G.code G.blk G.nd G.nocell G.dl G.dot G.co hi hs I h fun J H2 a s5 hR M => hQ H2 a s5 (runs_gx1 G.room G.calm G.co M hg ht he hR)⟩
theorem px_2 {t1 i1 : Expr} {c1 : List Expr} {w1 : TI} {g1 : TG} {tt1 : TT} {vs1 : List Nat} (G : GxOk X c P sc own k) (hi : PI X tg it0 wi) (hs : ∀ v, genFold it0 X.env v = pure v) (hg : ∀ s H cl C cv A' fp pn, Room k A' → PG (genY X sc s H cl C cv A' fp pn) tg g) (ht : ∀ s H cl C cv A' fp pn, Room k A' → PTs (genY X sc s H cl C cv A' fp pn) cs tt)
    (he : ∀ s H cl C cv A' fp pn, Room k A' → PE (genY X sc s H cl C cv A' fp pn) el te) (hi1 : ∀ s H cl C cv A' fp pn, Room k A' → PI (genY X sc s H cl C cv A' fp pn) t1 i1 w1) (hg1 : ∀ s H cl C cv A' fp pn, Room k A' → PG (genY X sc s H cl C cv A' fp pn) t1 g1) (ht1 : ∀ s H cl C cv A' fp pn, Room k A' → PTs (genY X sc s H cl C cv A' fp pn) c1 tt1)
    (hs1 : ∀ en x, foldedSetIterable i1 en x = pure x) (hv : ∀ j ∈ vs1, j ∈ own.map (·.2)) : PX X (.GeneratorExp el [⟨tg, it0, cs, 0⟩, ⟨t1, i1, c1, 0⟩] sc p) (tGx2 P wi g tt w1 g1 tt1 te (own.map (·.2)) vs1) :=
  ⟨fun pins s σ H Yd En Q' I h hQ => gx_make G.room G.tab G.code G.blk G.nd G.nocell G.dl G.dot G.co hi hs I h fun J H2 a s5 hR M => hQ H2 a s5 (runs_gx2 G.room G.calm G.co M hg ht he hi1 hg1 ht1 hs1 hv hR)⟩

def tAnyG (t : TGx) : TE := fun σ H Q => t σ H (eatB true fun H' => Q (.bl true) H') fun _ H' => Q (.bl false) H'
def tAllG (t : TGx) : TE := fun σ H Q => t σ H (eatB false fun H' => Q (.bl false) H') fun _ H' => Q (.bl true) H'
theorem noAte_wf : noAte.Wf where
  at_ := fun c l h q hq => by rw [show l = [] from h] at hq; cases hq
  all := fun c l h b hb => by cases hb
variable {el' : Expr} {gs : List Comprehension} {pn p2 : Pos} {t : TGx}
theorem pe_anyG (hr : Room 1 X.A) (hg : Gl X "any") (hm : X.mg "any" = none) (h : PX X (.GeneratorExp el' gs sc p) t) : PE X (.Call (.Name "any" pn) [.GeneratorExp el' gs sc p] [] p2) (tAnyG t) := by
  refine ⟨fun pins s σ H Q I ht => ?_⟩
  have he : starEach [.GeneratorExp el' gs sc p] X.env = (false, eval (.GeneratorExp el' gs sc p) X.env) :: starEach [] X.env := rfl
  refine wpAny_Call_Name_kw (ld_blt I hg hm boot_any (PyProof.Rows.callWith_builtin1 ?_ he (by rfl)))
  rw [he]
  show wpAny _ _ (spliced ((false, eval (.GeneratorExp el' gs sc p) X.env) :: backTo p2 (starEach [] X.env))) _ _ s
  refine Calls.spliced_cons (h.run pins s σ H _ _ _ I ht fun H2 a s5 R => Calls.spliced_nil ?_)
  obtain ⟨Y, g, n, eP, ew, I5, hgen, back, go⟩ := R
  refine call_function_tree F.kind_any F.plain_any F.entry_any (F.args_any1 _) ?_
  unfold Builtin.«any»
  refine wpAny_bind (m := oneArg "any" _) (wpAny_pure (wpAny_bind (wpAny_pyIter_gen hgen (wpAny_pure ⟨plainId_quiet F.plain_any_loop _, ?_⟩))))
  obtain ⟨_, gs', e1, e2⟩ := go noAte s5 noAte_wf (fun b hb => by cases hb) ⟨rfl, I5.bare, fun _ _ e => e⟩ ⟨[], rfl, fun _ hq => nomatch hq⟩ rfl
  rw [← eP, ← ew]
  exact any_loop hr.hd hr.depth (fun ip σ' H' s' J => (back ip σ' H' s' J).1) (fun σ' H' s' s'' J q lk => ⟨.bl false, H', Like.inv (back _ _ _ _ J).2 lk, rfl, q⟩) (fun ip σ' H' s' s'' J q lk => ⟨.bl true, H', Like.inv (back _ _ _ _ J).2 lk, rfl, q⟩) (fun _ _ _ q => q) n s5 hgen I5.nolimit ⟨gs', e1, e2⟩
theorem boot_all : bootBuiltins "all" = some (.builtin "all") := by decide +kernel
theorem pe_allG (hr : Room 1 X.A) (hg : Gl X "all") (hm : X.mg "all" = none) (h : PX X (.GeneratorExp el' gs sc p) t) : PE X (.Call (.Name "all" pn) [.GeneratorExp el' gs sc p] [] p2) (tAllG t) := by
  refine ⟨fun pins s σ H Q I ht => ?_⟩
  have he : starEach [.GeneratorExp el' gs sc p] X.env = (false, eval (.GeneratorExp el' gs sc p) X.env) :: starEach [] X.env := rfl
  refine wpAny_Call_Name_kw (ld_blt I hg hm boot_all (PyProof.Rows.callWith_builtin1 ?_ he (by rfl)))
  rw [he]
  show wpAny _ _ (spliced ((false, eval (.GeneratorExp el' gs sc p) X.env) :: backTo p2 (starEach [] X.env))) _ _ s
  refine Calls.spliced_cons (h.run pins s σ H _ _ _ I ht fun H2 a s5 R => Calls.spliced_nil ?_)
  obtain ⟨Y, g, n, eP, ew, I5, hgen, back, go⟩ := R
  refine call_function_tree F.kind_all F.plain_all F.entry_all (F.args_all1 _) ?_
  unfold Builtin.«all»
  refine wpAny_bind (m := oneArg "all" _) (wpAny_pure (wpAny_bind (wpAny_pyIter_gen hgen (wpAny_pure ⟨plainId_quiet F.plain_all_loop _, ?_⟩))))
  obtain ⟨_, gs', e1, e2⟩ := go noAte s5 noAte_wf (fun b hb => by cases hb) ⟨rfl, I5.bare, fun _ _ e => e⟩ ⟨[], rfl, fun _ hq => nomatch hq⟩ rfl
  rw [← eP, ← ew]
  exact all_loop hr.hd hr.depth (fun ip σ' H' s' J => (back ip σ' H' s' J).1) (fun σ' H' s' s'' J q lk => ⟨.bl true, H', Like.inv (back _ _ _ _ J).2 lk, rfl, q⟩) (fun ip σ' H' s' s'' J q lk => ⟨.bl false, H', Like.inv (back _ _ _ _ J).2 lk, rfl, q⟩) (fun _ _ _ q => q) n s5 hgen I5.nolimit ⟨gs', e1, e2⟩
end
end K33
namespace K33
open PySem PySem.Spec PyProof.Rows GenW L2
section
variable {Y : Cx} {En : Int → Hp → Prop}
def sumAte (S : Addr) : Ate := ⟨[S], fun c l => ∃ (t : Tok) (k : Nat), l = [(S, lstObj #[.int c t] k)]⟩
theorem sumAte_wf (S : Addr) : (sumAte S).Wf where
  at_ := fun c l h q hq => by
    obtain ⟨t, k, rfl⟩ := h
    rw [List.mem_singleton.mp hq]
    exact ⟨List.mem_singleton.mpr rfl, fun v z => by cases z⟩
  all := fun c l h b hb => by
    obtain ⟨t, k, rfl⟩ := h
    exact ⟨_, by rw [List.mem_singleton.mp hb]; exact List.mem_singleton.mpr rfl⟩
def eatS : Eat := fun c y H N => ∃ i, y = .int i ∧ N (c + i)
theorem sum_at {S : Addr} {c c0 : Int} {t : Tok} {k : Nat} {s : Shared} (h : (sumAte S).At c s) (e : s.heap.get? S = some (lstObj #[.int c0 t] k)) : c = c0 := by
  obtain ⟨l, ⟨t', k', rfl⟩, hl⟩ := h
  have e2 := hl _ (List.mem_singleton.mpr rfl)
  rw [show s.heap.get? S = _ from e2] at e
  have e3 := Option.some.inj e
  have e4 : Data.seq #[.int c t'] k' = Data.seq #[.int c0 t] k := congrArg Obj.data e3
  injection e4 with e5 _
  have e6 : (#[Value.int c t'] : Array Value).toList = (#[Value.int c0 t] : Array Value).toList := by rw [e5]
  simp at e6
  exact e6.1

section
variable {A : Around} {a : Addr} {g : Nat} {S : Addr} {R : Result → Shared → Prop}
theorem sum_loop (hh : A.handled = none) (hd : A.depth < recursionLimit) (gen_ : ∀ ip σ H s, Inv Y ip σ H s → s.heap.IsGen a g) (hSa : S ≠ a) (hSc : S ≠ cStatics)
    (hend : ∀ c ip σ H s s' t, Inv Y ip σ H s → En c H → Like s s' → R (.ok (.ret (.int c t))) s') :
    ∀ (n : Nat) (s : Shared) (c0 : Int) (tA : Tok) (k0 : Nat) (st : Int), (st = 0 ∨ st = 2) → s.heap.get? S = some (lstObj #[.int c0 tA] k0) → s.heap.IsGen a g → s.heap.NoLimit →
      (∃ gs, s.gens[g]? = some gs ∧ gs.Goes (model Y.prog Y.w) A.in1.in1 (GxR Y (sumAte S) En) (GxY Y (sumAte S) eatS) n (.send .none) (s.setGen g .running)) →
      codeAny (model Y.prog Y.w) A (.builtin "sum.loop" ⟨[.ref a, .ref S, rawInt st, rawInt 0], []⟩) R s := by
  intro n
  induction n with
  | zero =>
    intro s c0 tA k0 st hst hS hg hl ⟨gs, hgs, hgo⟩
    refine codeAny_builtin F.entry_sum_loop ?_
    rw [Around.under_plainId F.plain_sum_loop _]
    show wpAny _ A.in1 (seqItems? (.ref S) >>= _) _ _ s
    refine wpAny_bind (wpAny_seqItems hS rfl ?_)
    show wpAny _ A.in1 (tryCatch (pyNext (.ref a)) _ >>= _) _ _ s
    refine wpAny_bind (wpAny_tryCatch (wpAny_pyNext_genexpQ (A := A.in1) (P := fun _ s₀ s => ∃ c σ H, (sumAte S).At c s₀ ∧ AI Y (sumAte S) c [] σ H s ∧ En c H) hh hl hd hg hgs hgo (fun v s1 gs' hb hv => ?_) fun s1 hp h' hk => ?_))
    · obtain ⟨c, x, ip, σ, H, Nx, hat, rx, ⟨l, hl', I⟩, ⟨i, rfl, hn⟩, hk⟩ := hv
      obtain ⟨t', k', rfl⟩ := hl'
      have e1 := (I.pin _ (List.mem_append_right _ (List.mem_append_left _ (List.mem_singleton.mpr rfl)))).1
      exact (hk (c + i) { s1 with heap := s1.heap.update S (Obj.mapSeq fun _ => #[.int (c + i) t']) } hn ⟨rfl, I.bare, fun b o hb e => (Heap.get?_update_other _ _ fun z => hb (by rw [← z]; exact List.mem_singleton.mpr rfl)).trans e, _, ⟨t', _, rfl⟩, fun q hq => by
        rw [List.mem_singleton.mp hq]
        exact Heap.get?_update_self _ e1 rfl⟩).elim
    · obtain ⟨c, σ, H, hat, ⟨l, hl', I⟩, en⟩ := hp
      obtain rfl : c = c0 := sum_at hat hS
      exact wpAny_pure (hend c _ σ H s1 _ tA I en ⟨rfl, allBare_setGen I.bare rfl, hk⟩)
  | succ n ih =>
    intro s c0 tA k0 st hst hS hg hl ⟨gs, hgs, hgo⟩
    have hgl : g < s.gens.size := (Array.getElem?_eq_some_iff.mp hgs).1
    refine codeAny_builtin F.entry_sum_loop ?_
    rw [Around.under_plainId F.plain_sum_loop _]
    show wpAny _ A.in1 (seqItems? (.ref S) >>= _) _ _ s
    refine wpAny_bind (wpAny_seqItems hS rfl ?_)
    show wpAny _ A.in1 (tryCatch (pyNext (.ref a)) _ >>= _) _ _ s
    refine wpAny_bind (wpAny_tryCatch (wpAny_gsz (n := g + 1) hgl (wpAny_pyNext_genexpQ (A := A.in1) (P := fun _ s₀ s => ∃ c σ H, (sumAte S).At c s₀ ∧ AI Y (sumAte S) c [] σ H s ∧ En c H) hh hl hd hg hgs hgo (fun v s1 gs' hb hv => ?_) fun s1 hp h' hk => ?_)))
    · intro hsz
      obtain ⟨c, x, ip, σ, H, Nx, hat, rx, ⟨l, hl', I⟩, ⟨i, rfl, hn⟩, hk⟩ := hv
      obtain rfl : c = c0 := sum_at hat hS
      obtain ⟨t', k', rfl⟩ := hl'
      obtain ⟨ti, rfl⟩ := rx
      have e1 := (I.pin _ (List.mem_append_right _ (List.mem_append_left _ (List.mem_singleton.mpr rfl)))).1
      have hgen := gen_ _ _ _ s1 I
      have hsz1 : g < s1.gens.size := by
        have q : (s1.setGen g gs').gens.size = s1.gens.size := setGen_size _ _ _
        have hsz' : g + 1 ≤ (s1.setGen g gs').gens.size := hsz
        omega
      have nxt : ∀ (st : Int) (h2 : Heap) (tk : Nat) (kk : Nat) (tt : Tok), (st = 0 ∨ st = 2) → (∀ b o, b ≠ S → s1.heap.get? b = some o → h2.get? b = some o) → h2.get? S = some (lstObj #[.int (c + i) tt] kk) →
          codeAny (model Y.prog Y.w) A (.builtin "sum.loop" ⟨[.ref a, .ref S, rawInt st, rawInt 0], []⟩) R { s1.setGen g gs' with heap := h2, toks := tk } := fun st h2 tk kk tt hst2 hk2 e2 => by
        refine ih _ (c + i) tt kk st hst2 e2 ?_ ?_ ⟨gs', setGen_at hsz1, hk (c + i) _ hn ⟨rfl, allBare_setGen (s := s1.setGen g gs') (allBare_setGen I.bare hb) rfl, fun b o hb e => hk2 b o (fun z => hb (by rw [z]; exact List.mem_singleton.mpr rfl)) e, _, ⟨tt, kk, rfl⟩, fun q hq => by
          rw [List.mem_singleton.mp hq]; exact e2⟩⟩
        · obtain ⟨o, nm, qn, ho, r⟩ := hgen
          exact ⟨o, nm, qn, hk2 a o (Ne.symm hSa) ho, r⟩
        · obtain ⟨mc, hns, hnn⟩ := I.nolimit
          exact ⟨mc, hns.at' fun o e => hk2 _ o (Ne.symm hSc) e, hnn⟩
      have upd1 : ∀ (h2 : Heap) (f : Obj → Obj) (b : Addr) (o : Obj), b ≠ S → h2.get? b = some o → (h2.update S f).get? b = some o := fun h2 f b o hb e => (Heap.get?_update_other _ _ (Ne.symm hb)).trans e
      rcases hst with rfl | rfl
      · show wpAny _ A.in1 (if (_ : Bool) = true then (mkInt (c + i) >>= _) else _) _ _ _
        split
        · refine wpAny_bind (wpAny_mkInt ?_)
          show wpAny _ A.in1 (updateSeq S (fun _ => #[.int (c + i) _]) >>= _) _ _ _
          refine wpAny_bind (wpAny_updateSeq e1 rfl (wpAny_pure ⟨plainId_quiet F.plain_sum_loop _, nxt 0 _ _ _ _ (.inl rfl) (fun b o hb e => upd1 _ _ b o hb e) (Heap.get?_update_self _ e1 rfl)⟩))
        · refine wpAny_bind (wpAny_rule ?_)
          refine wpAny_bind (wpAny_attempt (wpAny_holding (wpAny_add_int ?_)))
          show wpAny _ A.in1 (updateSeq S (fun _ => #[.int (c + i) _]) >>= _) _ _ _
          refine wpAny_bind (wpAny_updateSeq e1 rfl (wpAny_bind (wpAny_letGo ?_)))
          have e3 := Heap.get?_update_self (Obj.mapSeq fun _ => #[Value.int (c + i) s1.toks]) e1 rfl
          refine wpAny_bind (wpAny_updateSeq e3 rfl (wpAny_pure ⟨plainId_quiet F.plain_sum_loop _, nxt 2 _ _ _ _ (.inr rfl) (fun b o hb e => upd1 _ _ b o hb (upd1 _ _ b o hb e)) (Heap.get?_update_self _ e3 rfl)⟩))
      · show wpAny _ A.in1 ((holding [Value.int i ti] (binaryOp .Add (.int c tA) (.int i ti))).attempt >>= _) _ _ _
        refine wpAny_bind (wpAny_attempt (wpAny_holding (wpAny_add_int ?_)))
        show wpAny _ A.in1 (updateSeq S (fun _ => #[.int (c + i) _]) >>= _) _ _ _
        refine wpAny_bind (wpAny_updateSeq e1 rfl (wpAny_bind (wpAny_letGo ?_)))
        have e3 := Heap.get?_update_self (Obj.mapSeq fun _ => #[Value.int (c + i) s1.toks]) e1 rfl
        refine wpAny_bind (wpAny_updateSeq e3 rfl (wpAny_pure ⟨plainId_quiet F.plain_sum_loop _, nxt 2 _ _ _ _ (.inr rfl) (fun b o hb e => upd1 _ _ b o hb (upd1 _ _ b o hb e)) (Heap.get?_update_self _ e3 rfl)⟩))
    · intro hsz
      obtain ⟨c, σ, H, hat, ⟨l, hl', I⟩, en⟩ := hp
      obtain rfl : c = c0 := sum_at hat hS
      exact wpAny_pure (hend c _ σ H s1 _ tA I en ⟨rfl, allBare_setGen I.bare rfl, hk⟩)
end
end
section
variable {X : Cx} {el' : Expr} {gs : List Comprehension} {sc : Scope} {p pn p2 : Pos} {t : TGx}
def tSumG (t : TGx) : TE := fun σ H Q => t σ H eatS fun c H' => Q (.int c) H'
theorem boot_sum : bootBuiltins "sum" = some (.builtin "sum") := by decide +kernel
theorem pe_sumG (hr : Room 1 X.A) (hg : Gl X "sum") (hm : X.mg "sum" = none) (h : PX X (.GeneratorExp el' gs sc p) t) : PE X (.Call (.Name "sum" pn) [.GeneratorExp el' gs sc p] [] p2) (tSumG t) := by
  refine ⟨fun pins s σ H Q I ht => ?_⟩
  have he : starEach [.GeneratorExp el' gs sc p] X.env = (false, eval (.GeneratorExp el' gs sc p) X.env) :: starEach [] X.env := rfl
  refine wpAny_Call_Name_kw (ld_blt I hg hm boot_sum (PyProof.Rows.callWith_builtin1 ?_ he (by rfl)))
  rw [he]
  show wpAny _ _ (spliced ((false, eval (.GeneratorExp el' gs sc p) X.env) :: backTo p2 (starEach [] X.env))) _ _ s
  refine Calls.spliced_cons (h.run pins s σ H _ _ _ I ht fun H2 a s5 R => Calls.spliced_nil ?_)
  obtain ⟨Y, g, n, eP, ew, I5, hgen, back, go⟩ := R
  refine call_function_tree F.kind_sum F.plain_sum F.entry_sum (F.args_sum1 _) ?_
  unfold Builtin.«sum»
  simp only [List.length_cons, List.length_nil]
  rw [if_neg (by decide)]
  refine wpAny_bind (wpAny_of_eq (show Builtin.Builtins.bindParams "sum" ["start"] 0 { } = pure [none] from rfl) ?_)
  refine wpAny_bind (wpAny_pyIter_gen hgen (wpAny_bind (wpAny_mkInt (wpAny_bind (wpAny_pure ?_)))))
  simp only [List.forIn_cons, List.forIn_nil]
  refine wpAny_bind (wpAny_bind (wpAny_bind (wpAny_isInstance (T := "int") (b := false) (typeIs_int _ _ _) PySem.sub_int_str ?_)))
  simp only [Bool.false_eq_true, if_false]
  refine wpAny_pure (wpAny_bind (wpAny_bind (wpAny_isInstance (T := "int") (b := false) (typeIs_int _ _ _) PySem.sub_int_bytes ?_)))
  simp only [Bool.false_eq_true, if_false]
  refine wpAny_pure (wpAny_bind (wpAny_bind (wpAny_isInstance (T := "int") (b := false) (typeIs_int _ _ _) PySem.sub_int_bytearray ?_)))
  simp only [Bool.false_eq_true, if_false]
  refine wpAny_pure (wpAny_pure (wpAny_bind (wpAny_newObj_type (wpAny_pure ⟨plainId_quiet F.plain_sum_loop _, ?_⟩))))
  have hgl : a < s5.heap.objs.size := by obtain ⟨o, _, _, ho, _⟩ := hgen; exact Heap.lt_size ho
  have hcl : cStatics < s5.heap.objs.size := let ⟨_, hn, _⟩ := I5.nolimit; hn.lt
  have lk : Like s5 { s5 with heap := s5.heap.push (lstObj #[.int 0 s5.toks] 0), toks := s5.toks + 1 } := ⟨rfl, I5.bare, fun b o e => Heap.get?_push_of_some _ e⟩
  have eS : (s5.heap.push (lstObj #[.int 0 s5.toks] 0)).get? s5.heap.objs.size = some (lstObj #[.int 0 s5.toks] 0) := Heap.get?_push_size _ rfl
  obtain ⟨_, gs', e1, e2⟩ := go (sumAte s5.heap.objs.size) { s5 with heap := s5.heap.push (lstObj #[.int 0 s5.toks] 0), toks := s5.toks + 1 } (sumAte_wf _) (fun b hb => by rw [List.mem_singleton.mp hb]; exact Nat.le_refl _) lk ⟨_, ⟨s5.toks, 0, rfl⟩, fun q hq => by rw [List.mem_singleton.mp hq]; exact eS⟩ rfl
  rw [← eP, ← ew]
  exact sum_loop (Y := Y) (En := fun c H' => Q (.int c) H') (S := s5.heap.objs.size) hr.hd hr.depth (fun ip σ' H' s' J => (back ip σ' H' s' J).1) (Nat.ne_of_gt hgl) (Nat.ne_of_gt hcl) (fun c ip σ' H' s' s'' t J q lk => ⟨.int c, H', Like.inv (back _ _ _ _ J).2 lk, ⟨t, rfl⟩, q⟩) n _ 0 s5.toks 0 0 (.inl rfl) eS (hgen.push _) (I5.nolimit.push _) ⟨gs', e1, e2⟩
end
end K33
namespace K33
open PySem PySem.Spec PyProof.Rows GenW L2

/-! ## a generator expression within a generator expression: the outer one's code object is tracked -/
/-- the object at c is a code object whose table stands at P -/
def CodeHO (c P : Addr) : HO := .ext fun h => PySem.W.CodeHd h c P
/-- the table at P: each code object that it tells is tracked, with its own table -/
def NestG (P : Addr) (H : Hp) : Prop := ∃ ps : Array Value, H P = some (.tbl ps) ∧ TriplesOk ps.toList ∧ ∀ (pos : Pos) (cv : Value), codeAmong pos ps.toList = some cv → ∃ c' P', cv = .ref c' ∧ H c' = some (CodeHO c' P') ∧ GxR.TabG H P' ∧ P' ≠ P
/-- the outer code object c', its table P' -/
structure Nested (P c' P' : Addr) (H H' : Hp) : Prop where
  nest : NestG P H'
  code : H' c' = some (CodeHO c' P')
  tab : GxR.TabG H' P'
  ne : P' ≠ P
  keep : ∀ b o, b ≠ P → H b = some o → H' b = some o
theorem codeHO_ok {prog : Program} {w : World} {H : Hp} {h : Heap} {c P : Addr} (x : PySem.W.CodeHd h c P) : ObjOk prog w H h c (CodeHO c P) := by
  refine ⟨x, ?_, fun h1 h2 y st => ?_⟩
  · obtain ⟨o, vs, file, tf, flags, tg, inF, text, tt, e, _⟩ := x
    exact ⟨o, e⟩
  · obtain ⟨o, vs, file, tf, flags, tg, inF, text, tt, e, r⟩ := y
    exact ⟨o, vs, file, tf, flags, tg, inF, text, tt, st _ e, r⟩
section
variable {X : Cx} {pins : List (Addr × Obj)} {σ : L2.St} {H H0 : Hp} {s s0 : Shared}
theorem codeHO_hd {c P : Addr} (I : Inv X pins σ H s) (h : H c = some (CodeHO c P)) : PySem.W.CodeHd s.heap c P := (I.hok c _ h).1
/-- an object of the frame's own that was not tracked is tracked from now on -/
theorem inv_track {a : Addr} {o : HO} (I0 : Inv X pins σ H0 s0) (I : Inv X pins σ H s) (ha : s0.heap.objs.size ≤ a) (hn : H a = none) (new : ObjOk X.prog X.w (upd H a o) s.heap a o) : Inv X pins σ (upd H a o) s := by
  have old : ∀ b u, X.s_0.heap.get? b = some u → b ≠ a := fun b u e z => by
    subst z
    exact absurd (Nat.lt_of_lt_of_le (Heap.lt_size e) (Nat.le_trans I0.sz ha)) (Nat.lt_irrefl _)
  have old0 : ∀ b u, s0.heap.get? b = some u → b ≠ a := fun b u e z => by
    subst z
    exact absurd (Nat.lt_of_lt_of_le (Heap.lt_size e) ha) (Nat.lt_irrefl _)
  have sm : ∀ b u, H b = some u → b ≠ a := fun b u e => ne_of_none e hn
  refine ⟨I.ok, I.os, I.bare, ⟨I.base.keep, I.base.slot, fun b u e n hx => ?_, I.base.there, fun b xs e => ?_, fun b u xs e => ?_, fun b ps e => ?_⟩, I.loc, I.cell, ?_, fun x c e => ?_, fun p hp => ?_, fun b u e => ?_, I.len⟩
  · rw [upd_ne (old b u e)]; exact I.base.free b u e n hx
  · have z := I.base.tups b xs e
    rw [upd_ne (sm _ _ z)]; exact z
  · have z := I.base.frzs b u xs e
    rw [upd_ne (sm _ _ z)]; exact z
  · obtain ⟨more, z⟩ := I.base.tbls b ps e
    exact ⟨more, by rw [upd_ne (sm _ _ z)]; exact z⟩
  · have : X.env.locals ≠ a := fun z => by
      have h1 := I0.lt
      rw [z] at h1
      exact absurd (Nat.lt_of_lt_of_le h1 ha) (Nat.lt_irrefl _)
    rw [upd_ne this]; exact I.free
  · obtain ⟨v, o', ho, _⟩ := I0.cell x c e
    rw [upd_ne (old0 _ _ ho)]; exact I.freeC x c e
  · obtain ⟨z1, z2, z3, z4, z5⟩ := I.pin p hp
    exact ⟨z1, by rw [upd_ne (old0 _ _ (I0.pin p hp).1)]; exact z2, z3, z4, z5⟩
  · by_cases hb : b = a
    · subst hb
      rw [upd_same] at e; cases e
      exact new
    · rw [upd_ne hb] at e
      exact (I.hok b u e).stay (fun _ _ _ q => q) (fun d q => by rw [upd_ne (sm _ _ q)]; exact q) fun d xs q => by rw [upd_ne (sm _ _ q)]; exact q

/-- as Made, the code object told -/
def MadeC (cv : Value) (X : Cx) (pins : List (Addr × Obj)) (σ : L2.St) (sc : Scope) (own : List (Str × Nat)) (cd : Value → Env → Code) (tg : Expr) (J : It) (H2 : Hp) (a : Addr) (s5 : Shared) : Prop :=
  ∃ (s4 : Shared) (cl : List (Str × Addr)) (fp : List Addr) (it : Addr) (tn : Nat → Heap → Prop) (g : Nat) (o : Obj), Inv X pins σ H2 s4 ∧ Inv X pins σ H2 s5 ∧ Turn X.prog X.w X.K tg J fp it tn ∧ tn 0 s5.heap ∧ (∀ b ∈ fp, FpOk X pins H2 b ∧ b < s4.heap.objs.size) ∧
    s5.heap.get? a = some o ∧ (∀ h : Heap, h.get? a = some o → h.IsGen a g) ∧ (∀ v, o.data ≠ .cell v) ∧ s4.heap.objs.size < a ∧ a < s5.heap.objs.size ∧ s5.gens[g]? = some (.fresh (cd (.ref it) (genEnv sc cl s4.heap.objs.size cv builtinsNs X.env))) ∧ (∀ x c, cl.lookup x = some c → c < s4.heap.objs.size) ∧
    ∀ A' : Around, A'.handled = none → A'.frames = some (genEnv sc cl s4.heap.objs.size cv builtinsNs X.env :: X.stack) → Inv (gen X s4 H2 (genEnv sc cl s4.heap.objs.size cv builtinsNs X.env) A' fp [(a, o)]) [] (wipe σ (own.map (·.2))) H2 s5

/-- the generator's making behind its code object -/
theorem gx_tail {P0 it : Addr} {el tg it0 : Expr} {cs : List Expr} {more : List Comprehension} {sc : Scope} {p : Pos} {own : List (Str × Nat)} {Q' : Value → Shared → Prop} {fp : List Addr} {tn : Nat → Heap → Prop} {J : It} {H2 : Hp} {cv : Value}
    (BM : X.base.BuiltinsAt X.mg P0) (B : BlkOk X.N X.env.scope sc own) (hN : X.N.Nodup) (hcell : ∀ y ∈ sc.names, y.2 ≠ .cell) (hdl : sc.names.lookup (".0" : Str) = some NameKind.local) (hdot : (".0" : Str) ∉ X.N)
    {s4 : Shared} (I4 : Inv X pins σ H2 s4) (T : Turn X.prog X.w X.K tg J fp it tn) (st4 : tn 0 s4.heap) (f4 : ∀ b ∈ fp, FpOk X pins H2 b ∧ b < s4.heap.objs.size)
    (hQ : ∀ a s5, MadeC cv X pins σ sc own (fun itv ce => .compStart (.GeneratorExp el (⟨tg, it0, cs, 0⟩ :: more) sc p) 0 itv .none ce) tg J H2 a s5 → Q' (.ref a) s5) :
    wpAny (model X.prog X.w) X.A (do
        let bi ← builtinsFor X.env.globals X.env.builtins
        let ce ← newFunctionEnv sc X.env.globals (cloFrom X.env.cells sc.names []) [(".0", Value.ref it)] (X.env.qual ++ "<genexpr>.") none cv none bi
        newGenerator (.compStart (.GeneratorExp el (⟨tg, it0, cs, 0⟩ :: more) sc p) 0 (.ref it) .none ce) "<genexpr>" (X.env.qual ++ "<genexpr>")) Q' X.xe s4 := by
  have hfree : ∀ y ∈ sc.names, y.2 = .free → ∃ c, X.env.cells.lookup y.1 = some c := fun y hy e => by
    rcases B.free y hy e with k | k
    · exact I4.ok.has _ (.inl k)
    · exact I4.ok.has _ (.inr k)
  obtain ⟨bm, ob, e1, e2, e3, e4, e5, e6, e7, e8⟩ := BM
  refine wpAny_bind (wpAny_builtinsFor (m := X.mg) (by rw [I4.ok.glob]; exact I4.mod.glob.keeps I4.bk) e1 e2 (I4.bk _ _ e5) e6 e7 e8 ?_)
  have hb0 : ∀ y ∈ ([((".0" : Str), Value.ref it)] : List (Str × Value)), sc.names.lookup y.1 = some NameKind.local := fun y hy => by
    rw [List.mem_singleton.mp hy]; exact hdl
  refine wpAny_bind (wpAny_newFunctionEnv hcell hb0 (fun h' hn' hs' => ?_) B.kind)
  have e0 : (fun y : Str => ([((".0" : Str), Value.ref it)] : List (Str × Value)).reverse.lookup y) = fun y : Str => if y = (".0" : Str) then some (Value.ref it) else none := by
    funext y
    by_cases hy : y = ".0"
    · subst hy; simp
    · simp [List.lookup, show (y == (".0" : Str)) = false by simpa using hy, hy]
  rw [e0] at hn'
  simp only [newGenerator, newFields]
  refine wpAny_bind (wpAny_newGen (wpAny_bind (wpAny_mkText (wpAny_bind (wpAny_mkText (wpAny_newObj_type ?_ (by size_fits)))))))
  have hsz' : h'.objs.size = s4.heap.objs.size + 1 := by rw [hs'.1, Heap.size_push]
  have kp1 : ∀ b o, s4.heap.get? b = some o → h'.get? b = some o := fun b o e => hs'.extBut b o (Nat.ne_of_lt (Heap.lt_size e)) (Heap.get?_push_of_some _ e)
  refine hQ h'.objs.size _ ⟨s4, cloFrom X.env.cells sc.names [], fp, it, tn, s4.gens.size, _, I4, ?_, T, ?_, f4, Heap.get?_push_size _ rfl, fun h e => ⟨_, _, _, e, rfl, rfl, rfl⟩, fun v z => (by cases z), by omega, by show _ < (h'.push _).objs.size; rw [Heap.size_push]; exact Nat.lt_succ_self _, Array.getElem?_push_size .., fun y c' hy => ?_, fun A' hA hf => ?_⟩
  · exact I4.call' (ch := []) rfl (Un.kept fun b o e => Heap.get?_push_of_some _ (kp1 b o e)) (I4.hok.kept fun b o e => Heap.get?_push_of_some _ (kp1 b o e)) (AllBare.push I4.bare rfl) fun b hb => nomatch hb
  · exact T.keep _ _ _ st4 fun b _ o e => Heap.get?_push_of_some _ (kp1 b o e)
  · rcases cloFrom_mem (PySem.mem_of_lookup hy) with hm | ⟨h1, h2⟩
    · cases hm
    · obtain ⟨c', hc'⟩ := hfree _ h1 rfl
      rw [h2, hc']
      obtain ⟨w, z⟩ := I4.cell _ _ hc'
      exact z.lt
  · exact gen_start I4 B hN hcell f4 hA hf (fun b o e => Heap.get?_push_of_some _ (kp1 b o e)) (hn'.push _) rfl (AllBare.push I4.bare rfl) (Heap.get?_push_size _ rfl) (by omega) (fun v z => by cases z) hdot

/-- the outer one's making -/
theorem gx_makeN {c P : Addr} {el tg it0 : Expr} {cs : List Expr} {more : List Comprehension} {sc : Scope} {p : Pos} {own : List (Str × Nat)} {wi : TI} {k : Nat} {R : It → Hp → Addr → Addr → Prop} {Q' : Value → Shared → Prop}
    (hr : Room k X.A) (TB : GxR.TabB X.base X.mg c P) (hcode : X.env.code = .ref c) (B : BlkOk X.N X.env.scope sc own) (hN : X.N.Nodup) (hcell : ∀ y ∈ sc.names, y.2 ≠ .cell) (hdl : sc.names.lookup (".0" : Str) = some NameKind.local) (hdot : (".0" : Str) ∉ X.N)
    (hco : sc.isCoroutine = false) (hi : PI X tg it0 wi) (hs : ∀ v, genFold it0 X.env v = pure v) (I : Inv X pins σ H s)
    (h : wi σ H fun J H1 => NestG P H1 ∧ ∀ H2 c' P', Nested P c' P' H1 H2 → R J H2 c' P')
    (hQ : ∀ J H2 c' P' a s5, R J H2 c' P' → MadeC (.ref c') X pins σ sc own (fun itv ce => .compStart (.GeneratorExp el (⟨tg, it0, cs, 0⟩ :: more) sc p) 0 itv .none ce) tg J H2 a s5 → Q' (.ref a) s5) :
    wpAny (model X.prog X.w) X.A (eval (.GeneratorExp el (⟨tg, it0, cs, 0⟩ :: more) sc p) X.env) Q' X.xe s := by
  have hfree : ∀ y ∈ sc.names, y.2 = .free → ∃ c, X.env.cells.lookup y.1 = some c := fun y hy e => by
    rcases B.free y hy e with k | k
    · exact I.ok.has _ (.inl k)
    · exact I.ok.has _ (.inr k)
  rw [eval_gx _ _ _ _ _ _ _ _ hco, closure_ok hfree]
  refine wpAny_bind (thn (hi.run pins s σ H _ I h) fun xv s1 h1 => ?_)
  refine wpAny_bind (wpAny_standAt (wpAny_bind (wpAny_of_eq (hs xv) (wpAny_bind (wpAny_holding (thn h1 fun itv s2 h2 => ?_))))))
  obtain ⟨it, fp, tn, J, H1, e, I2, T, st2, f2, ⟨ps, hP, ht, hall⟩, q⟩ := h2
  subst e
  refine wpAny_bind (wpAny_enterFrame I2.nolimit hr.depth (wpAny_bind (wpAny_pure ?_)))
  have hPs : s2.heap.get? P = some { cls := .none, data := .fields ps } := I2.hok P _ hP
  have cd : PySem.W.CodeHd s2.heap c P := TB.code.keeps fun b u e => I2.bk b u e
  have sz2 : ∀ b ∈ fp, b < s2.heap.objs.size := fun b hb => by
    obtain ⟨o, e, _⟩ := T.obj _ _ st2 b hb
    exact Heap.lt_size e
  cases hf : codeAmong p ps.toList with
  | none =>
    refine wpAny_bind (wpAny_genexprCodeX hcode (cd.code hPs ht) (cd.tab hPs) hf fun c' h' tk hx hge hlt hco' _ htab' hnew => ?_)
    obtain ⟨P', hP'ge, icode', itab'⟩ := hnew
    have hd' : PySem.W.CodeHd h' c' P' := .of icode' itab'
    have hcP' : c' ≠ P' := by
      obtain ⟨_, _, _, _, _, _, _, _, _, _, _, _, _, _, _, _, _, _, z⟩ := hd'
      exact z
    obtain ⟨o1, vs, f1, tf, fl, tg', inF, tx, tt, op, _, _, _, _, _, _, _, _, _, htr, _⟩ := hco'
    have I3 : Inv X pins σ (upd H1 P (.tbl (ps ++ #[rawInt p.line, rawInt p.col, .ref c']))) { s2 with heap := h', gens := s2.gens, drawn := s2.drawn, toks := tk } := GxR.inv_tab I2 hP (fun b o hb e => hx b o hb e) htab'.2 I2.bare
    have nPc : H1 c' = none := I2.hok.fresh hge
    have nPp : H1 P' = none := I2.hok.fresh hP'ge
    have ePc : P ≠ c' := ne_of_none hP nPc
    have ePp : P ≠ P' := ne_of_none hP nPp
    have I3a := inv_track I2 I3 (o := CodeHO c' P') hge (by rw [upd_ne ePc.symm]; exact nPc) (codeHO_ok hd')
    have I4 := inv_track I2 I3a (o := .tbl #[]) hP'ge (by rw [upd_ne hcP'.symm, upd_ne ePp.symm]; exact nPp) (itab'.2 : ObjOk X.prog X.w _ h' P' (.tbl #[]))
    have eL : (ps ++ #[rawInt p.line, rawInt p.col, .ref c']).toList = ps.toList ++ [rawInt p.line, rawInt p.col, .ref c'] := by simp
    have at_ : ∀ b o, b ≠ P → H1 b = some o → upd (upd (upd H1 P (.tbl (ps ++ #[rawInt p.line, rawInt p.col, .ref c']))) c' (CodeHO c' P')) P' (.tbl #[]) b = some o := fun b o hb e => by
      rw [upd_ne (ne_of_none e nPp), upd_ne (ne_of_none e nPc), upd_ne hb]; exact e
    have atc : upd (upd (upd H1 P (.tbl (ps ++ #[rawInt p.line, rawInt p.col, .ref c']))) c' (CodeHO c' P')) P' (.tbl #[]) c' = some (CodeHO c' P') := by rw [upd_ne hcP', upd_same]
    have atp : GxR.TabG (upd (upd (upd H1 P (.tbl (ps ++ #[rawInt p.line, rawInt p.col, .ref c']))) c' (CodeHO c' P')) P' (.tbl #[])) P' := ⟨#[], upd_same, trivial⟩
    have nst : Nested P c' P' H1 (upd (upd (upd H1 P (.tbl (ps ++ #[rawInt p.line, rawInt p.col, .ref c']))) c' (CodeHO c' P')) P' (.tbl #[])) := by
      refine ⟨⟨_, by rw [upd_ne ePp, upd_ne ePc, upd_same], htr, fun pos cv hcv => ?_⟩, atc, atp, ePp.symm, at_⟩
      rw [eL] at hcv
      rcases LamX.among_app _ ht hcv with z | z
      · obtain ⟨c0, P0, e1, e2, ⟨qs, e3, e4⟩, e5⟩ := hall pos cv z
        exact ⟨c0, P0, e1, at_ _ _ (fun z => by rw [z, hP] at e2; cases e2) e2, ⟨qs, at_ _ _ e5 e3, e4⟩, e5⟩
      · exact ⟨c', P', z, atc, atp, ePp.symm⟩
    have nP : ∀ b ∈ fp, b ≠ P := fun b hb z => by have := (f2 b hb).1; rw [z, hP] at this; cases this
    have hsz : s2.heap.objs.size ≤ h'.objs.size := Nat.le_trans hge (Nat.le_of_lt hlt)
    exact gx_tail TB.bm B hN hcell hdl hdot I4 T (T.keep _ _ _ st2 fun b hb o e => hx b o (nP b hb) e) (fun b hb => ⟨⟨by
      rw [upd_ne (Nat.ne_of_lt (Nat.lt_of_lt_of_le (sz2 b hb) hP'ge)), upd_ne (Nat.ne_of_lt (Nat.lt_of_lt_of_le (sz2 b hb) hge)), upd_ne (nP b hb)]; exact (f2 b hb).1, (f2 b hb).2⟩, Nat.lt_of_lt_of_le (sz2 b hb) hsz⟩) fun a s5 M => hQ J _ c' P' a s5 (q _ _ _ nst) M
  | some cv =>
    obtain ⟨c', P', rfl, ec, et, ne⟩ := hall p cv hf
    refine wpAny_bind (wpAny_genexprCode_hit hcode (cd.code hPs ht) hf ?_)
    have nst : Nested P c' P' H1 H1 := ⟨⟨ps, hP, ht, hall⟩, ec, et, ne, fun _ _ _ e => e⟩
    exact gx_tail TB.bm B hN hcell hdl hdot I2 T st2 (fun b hb => ⟨f2 b hb, sz2 b hb⟩) fun a s5 M => hQ J _ c' P' a s5 (q _ _ _ nst) M

/-- the inner one's making: the running code object is tracked -/
theorem gx_makeD {c P P0 : Addr} {el tg it0 : Expr} {cs : List Expr} {more : List Comprehension} {sc : Scope} {p : Pos} {own : List (Str × Nat)} {wi : TI} {k : Nat} {R : It → Hp → Prop} {Q' : Value → Shared → Prop}
    (hr : Room k X.A) (BM : X.base.BuiltinsAt X.mg P0) (hcode : X.env.code = .ref c) (B : BlkOk X.N X.env.scope sc own) (hN : X.N.Nodup) (hcell : ∀ y ∈ sc.names, y.2 ≠ .cell) (hdl : sc.names.lookup (".0" : Str) = some NameKind.local) (hdot : (".0" : Str) ∉ X.N)
    (hco : sc.isCoroutine = false) (hi : PI X tg it0 wi) (hs : ∀ v, genFold it0 X.env v = pure v) (I : Inv X pins σ H s)
    (h : wi σ H fun J H1 => H1 c = some (CodeHO c P) ∧ GxR.TabG H1 P ∧ ∀ H2, GxR.Tabbed P H1 H2 → R J H2)
    (hQ : ∀ J H2 a s5, R J H2 → Made X pins σ sc own (fun itv ce => .compStart (.GeneratorExp el (⟨tg, it0, cs, 0⟩ :: more) sc p) 0 itv .none ce) tg J H2 a s5 → Q' (.ref a) s5) :
    wpAny (model X.prog X.w) X.A (eval (.GeneratorExp el (⟨tg, it0, cs, 0⟩ :: more) sc p) X.env) Q' X.xe s := by
  have hfree : ∀ y ∈ sc.names, y.2 = .free → ∃ c, X.env.cells.lookup y.1 = some c := fun y hy e => by
    rcases B.free y hy e with k | k
    · exact I.ok.has _ (.inl k)
    · exact I.ok.has _ (.inr k)
  rw [eval_gx _ _ _ _ _ _ _ _ hco, closure_ok hfree]
  refine wpAny_bind (thn (hi.run pins s σ H _ I h) fun xv s1 h1 => ?_)
  refine wpAny_bind (wpAny_standAt (wpAny_bind (wpAny_of_eq (hs xv) (wpAny_bind (wpAny_holding (thn h1 fun itv s2 h2 => ?_))))))
  obtain ⟨it, fp, tn, J, H1, e, I2, T, st2, f2, hc, ⟨ps, hP, ht⟩, q⟩ := h2
  subst e
  refine wpAny_bind (wpAny_enterFrame I2.nolimit hr.depth (wpAny_bind (wpAny_pure ?_)))
  have hPs : s2.heap.get? P = some { cls := .none, data := .fields ps } := I2.hok P _ hP
  have cd : PySem.W.CodeHd s2.heap c P := codeHO_hd I2 hc
  have sz2 : ∀ b ∈ fp, b < s2.heap.objs.size := fun b hb => by
    obtain ⟨o, e, _⟩ := T.obj _ _ st2 b hb
    exact Heap.lt_size e
  have nP : ∀ b ∈ fp, b ≠ P := fun b hb z => by have := (f2 b hb).1; rw [z, hP] at this; cases this
  have toMade : ∀ {cv : Value} {H2 : Hp} {a : Addr} {s5 : Shared}, MadeC cv X pins σ sc own (fun itv ce => .compStart (.GeneratorExp el (⟨tg, it0, cs, 0⟩ :: more) sc p) 0 itv .none ce) tg J H2 a s5 → Made X pins σ sc own (fun itv ce => .compStart (.GeneratorExp el (⟨tg, it0, cs, 0⟩ :: more) sc p) 0 itv .none ce) tg J H2 a s5 := fun {cv H2 a s5} M => by
    obtain ⟨s4, cl, fp, it, tn, g, o, r⟩ := M
    exact ⟨s4, cl, cv, fp, it, tn, g, o, r⟩
  cases hf : codeAmong p ps.toList with
  | none =>
    refine wpAny_bind (wpAny_genexprCodeX hcode (cd.code hPs ht) (cd.tab hPs) hf fun c' h' tk hx hge hlt hco' _ htab' _ => ?_)
    obtain ⟨o1, vs, f1, tf, fl, tg', inF, tx, tt, op, _, _, _, _, _, _, _, _, _, htr, _⟩ := hco'
    have I4 : Inv X pins σ (upd H1 P (.tbl (ps ++ #[rawInt p.line, rawInt p.col, .ref c']))) { s2 with heap := h', gens := s2.gens, drawn := s2.drawn, toks := tk } := GxR.inv_tab I2 hP (fun b o hb e => hx b o hb e) htab'.2 I2.bare
    have hsz : s2.heap.objs.size ≤ h'.objs.size := Nat.le_trans hge (Nat.le_of_lt hlt)
    exact gx_tail BM B hN hcell hdl hdot I4 T (T.keep _ _ _ st2 fun b hb o e => hx b o (nP b hb) e) (fun b hb => ⟨⟨by rw [upd_ne (nP b hb)]; exact (f2 b hb).1, (f2 b hb).2⟩, Nat.lt_of_lt_of_le (sz2 b hb) hsz⟩) fun a s5 M => hQ J _ a s5 (q _ ⟨⟨_, upd_same, htr⟩, fun b hb => upd_ne hb⟩) (toMade M)
  | some cv =>
    refine wpAny_bind (wpAny_genexprCode_hit hcode (cd.code hPs ht) hf ?_)
    exact gx_tail BM B hN hcell hdl hdot I2 T st2 (fun b hb => ⟨f2 b hb, sz2 b hb⟩) fun a s5 M => hQ J _ a s5 (q _ ⟨⟨ps, hP, ht⟩, fun _ _ => rfl⟩) (toMade M)
end
end K33
namespace K33
open PySem PySem.Spec PyProof.Rows GenW L2
section
variable {X : Cx} {pins : List (Addr × Obj)} {σ : L2.St} {H : Hp} {s : Shared}
theorem made_runsC {cv : Value} {own : List (Str × Nat)} {cd : Value → Env → Code} {tg : Expr} {J : It} {H2 : Hp} {a : Addr} {s5 : Shared} {sc : Scope} {k : Nat} {Yd : Eat} {En : Int → Hp → Prop} (hr : Room (k + 3) X.A) (M : MadeC cv X pins σ sc own cd tg J H2 a s5)
    (h : ∀ (s4 : Shared) (cl : List (Str × Addr)) (C : Addr) (A' : Around) (fp : List Addr) (it : Addr) (tn : Nat → Heap → Prop) (pn : List (Addr × Obj)), Room k A' → X.A.in1.in1.deeper (genEnv sc cl C cv builtinsNs X.env) = A' → Turn X.prog X.w X.K tg J fp it tn → (∀ b ∈ fp, H2 b = none ∧ ∀ q ∈ pn, q.1 ≠ b) →
      ∃ n, ∀ (U : Ate) (s₀ s6 : Shared), U.Ok (genY X sc s4 H2 cl C cv A' fp pn) → U.At 0 s₀ → AI (genY X sc s4 H2 cl C cv A' fp pn) U 0 [] (wipe σ (own.map (·.2))) H2 s6 → tn 0 s6.heap →
        Seg (model X.prog X.w) X.A.in1.in1 (GxR (genY X sc s4 H2 cl C cv A' fp pn) U En) (GxY (genY X sc s4 H2 cl C cv A' fp pn) U Yd) n s₀ (cd (.ref it) (genEnv sc cl C cv builtinsNs X.env)) ((model X.prog X.w).den (cd (.ref it) (genEnv sc cl C cv builtinsNs X.env))) [] s6) :
    Runs1 X pins σ H2 a s5 Yd En := by
  obtain ⟨s4, cl, fp, it, tn, g, o, I4, I5, T, st, hfp, ha, hgen, hod, ha1, ha2, hgs, hcl, mk⟩ := M
  generalize hce : genEnv sc cl s4.heap.objs.size cv builtinsNs X.env = ce at mk hgs
  have hrA : Room k (X.A.in1.in1.deeper ce) := hr.in1.in1.deeper ce
  have IY := mk (X.A.in1.in1.deeper ce) hrA.hd (Around.frames_deeper (show X.A.in1.in1.frames = some X.stack from I4.ok.frames))
  have hne : ∀ b ∈ fp, a ≠ b := fun b hb e => by exact absurd (e ▸ (hfp b hb).2) (Nat.not_lt_of_le (Nat.le_of_lt ha1))
  obtain ⟨n, hn⟩ := h s4 cl s4.heap.objs.size (X.A.in1.in1.deeper ce) fp it tn [(a, o)] hrA (by rw [hce]) T fun b hb => ⟨(hfp b hb).1.1, fun q hq => by rw [List.mem_singleton.mp hq]; exact hne b hb⟩
  simp only [genY, hce] at hn
  refine ⟨gen X s4 H2 ce (X.A.in1.in1.deeper ce) fp [(a, o)], g, n, rfl, rfl, I5, hgen _ ha, fun ip σ' H' s' I' => ⟨hgen _ (I'.pin (a, o) (List.mem_append_left _ (List.mem_singleton.mpr rfl))).1, gen_back I4 (fun b hb => (hfp b hb).1) I'⟩, fun U s6 wf hy lk ⟨l, hl, hls⟩ hg6 => ?_⟩
  have eL : ce.locals = s4.heap.objs.size := by rw [← hce]; rfl
  have eC : ce.cells = cl := by rw [← hce]; rfl
  have uok : U.Ok (gen X s4 H2 ce (X.A.in1.in1.deeper ce) fp [(a, o)]) := {
    at_ := wf.at_
    all := wf.all
    pn := fun q hq hb => by
      have hq : q = (a, o) := by simpa using hq
      rw [hq] at hb
      exact absurd ha2 (Nat.not_lt_of_le (hy _ hb))
    young := fun b hb => ⟨Nat.le_trans (Nat.le_of_lt (Nat.lt_trans ha1 ha2)) (hy b hb), fun e => by
        have h1 := hy b hb
        have e : b = ce.locals := e
        rw [e, eL] at h1
        exact absurd (Nat.lt_trans ha1 ha2) (Nat.not_lt_of_le h1), fun x c e z => by
        have e : ce.cells.lookup x = some c := e
        rw [eC] at e
        have h1 := hcl x c e
        rw [z] at h1
        exact absurd (Nat.lt_trans h1 (Nat.lt_trans ha1 ha2)) (Nat.not_lt_of_le (hy b hb))⟩
    noex := fun b hb hm => absurd (Nat.lt_trans (hfp b hm).2 (Nat.lt_trans ha1 ha2)) (Nat.not_lt_of_le (hy b hb)) }
  refine ⟨uok, _, hg6.trans hgs, ?_⟩
  have lk' : Like s5 (s6.setGen g .running) := ⟨lk.1, allBare_setGen lk.2.1 rfl, lk.2.2⟩
  have I6 := Like.inv IY lk'
  refine ⟨rfl, hn U _ _ uok ⟨l, hl, hls⟩ ⟨l, hl, I6.pins_of fun q hq => ?_⟩ (T.keep _ _ _ st fun b _ o e => lk.2.2 b o e)⟩
  rcases List.mem_append.mp hq with hq | hq
  · obtain ⟨h1, h2⟩ := wf.at_ 0 l hl q hq
    have h3 := hy _ h1
    exact ⟨hls q hq, IY.hok.fresh h3, fun e => absurd IY.lt (Nat.not_lt_of_le (by rw [← e]; exact h3)), IY.nofs h3, h2⟩
  · cases hq

variable {el tg it0 : Expr} {cs : List Expr} {sc : Scope} {p : Pos} {own : List (Str × Nat)} {k : Nat} {J : It} {H2 : Hp} {a : Addr} {s5 : Shared} {g : TG} {tt : TT} {te : TE} {wi : TI} {Yd : Eat} {En : Int → Hp → Prop} {c P P0 : Addr}
theorem runs_gx1C {cv : Value} (hr : Room (k + 3) X.A) (hc : X.calm = true) (hco : sc.isCoroutine = false) (M : MadeC cv X pins σ sc own (fun itv ce => .compStart (.GeneratorExp el [⟨tg, it0, cs, 0⟩] sc p) 0 itv .none ce) tg J H2 a s5)
    (hg : ∀ s H cl C A' fp pn, Room k A' → PG (genY X sc s H cl C cv A' fp pn) tg g) (ht : ∀ s H cl C A' fp pn, Room k A' → PTs (genY X sc s H cl C cv A' fp pn) cs tt) (he : ∀ s H cl C A' fp pn, Room k A' → PE (genY X sc s H cl C cv A' fp pn) el te)
    (h : Gx1 J g tt te (own.map (·.2)) (wipe σ (own.map (·.2))) Yd En H2) : Runs1 X pins σ H2 a s5 Yd En := by
  refine made_runsC hr M fun s4 cl C A' fp it tn pn hrA eA T hfp => ?_
  obtain ⟨W, ⟨m, wm⟩, turn⟩ := h
  refine ⟨m + 1, fun U s₀ s6 uok h0 hI st => seg_gxs T st ?_⟩
  exact seg_gx1 (Y := genY X sc s4 H2 cl C cv A' fp pn) (vs := own.map (·.2)) (σ₀ := wipe σ (own.map (·.2))) (by rw [over_gx]; exact eA) hco hc rfl uok (fun b hb => ⟨hb, (hfp b hb).2⟩) T (hg _ _ _ _ _ _ _ hrA) (ht _ _ _ _ _ _ _ hrA) (he _ _ _ _ _ _ _ hrA) W turn m 0 0 (m + 1) s₀ s6 H2 (Nat.lt_succ_self _) wm h0 hI st fun b hb => (hfp b hb).1
/-- the outer generator expression -/
def tGxN (P : Addr) (wi : TI) (g : TG) (tt : Addr → Addr → TT) (te : Addr → Addr → TE) (vs : List Nat) : TGx := fun σ H Yd En => wi σ H fun J H1 => NestG P H1 ∧ ∀ H2 c' P', Nested P c' P' H1 H2 → Gx1 J g (tt c' P') (te c' P') vs (wipe σ vs) Yd En H2
theorem px_1n {tt : Addr → Addr → TT} {te : Addr → Addr → TE} (G : GxOk X c P sc own k) (hi : PI X tg it0 wi) (hs : ∀ v, genFold it0 X.env v = pure v) (hg : ∀ c' s H cl C A' fp pn, Room k A' → PG (genY X sc s H cl C (.ref c') A' fp pn) tg g) (ht : ∀ c' P' s H cl C A' fp pn, Room k A' → PTs (genY X sc s H cl C (.ref c') A' fp pn) cs (tt c' P'))
    (he : ∀ c' P' s H cl C A' fp pn, Room k A' → PE (genY X sc s H cl C (.ref c') A' fp pn) el (te c' P')) : PX X (.GeneratorExp el [⟨tg, it0, cs, 0⟩] sc p) (tGxN P wi g tt te (own.map (·.2))) :=
  ⟨fun pins s σ H Yd En Q' I h hQ => gx_makeN G.room G.tab G.code G.blk G.nd G.nocell G.dl G.dot G.co hi hs I h fun J H2 c' P' a s5 hR M => hQ H2 a s5 (runs_gx1C G.room G.calm G.co M (hg c') (ht c' P') (he c' P') hR)⟩
/-- the inner one -/
structure GxOkD (X : Cx) (c P0 : Addr) (sc : Scope) (own : List (Str × Nat)) (k : Nat) : Prop where
  room : Room (k + 3) X.A
  calm : X.calm = true
  bm : X.base.BuiltinsAt X.mg P0
  code : X.env.code = .ref c
  blk : BlkOk X.N X.env.scope sc own
  nd : X.N.Nodup
  nocell : ∀ y ∈ sc.names, y.2 ≠ .cell
  dl : sc.names.lookup (".0" : Str) = some NameKind.local
  dot : (".0" : Str) ∉ X.N
  co : sc.isCoroutine = false
def tGxD (c P : Addr) (wi : TI) (g : TG) (tt : TT) (te : TE) (vs : List Nat) : TGx := fun σ H Yd En => wi σ H fun J H1 => H1 c = some (CodeHO c P) ∧ GxR.TabG H1 P ∧ ∀ H2, GxR.Tabbed P H1 H2 → Gx1 J g tt te vs (wipe σ vs) Yd En H2
theorem px_1d (G : GxOkD X c P0 sc own k) (hi : PI X tg it0 wi) (hs : ∀ v, genFold it0 X.env v = pure v) (hg : ∀ s H cl C cv A' fp pn, Room k A' → PG (genY X sc s H cl C cv A' fp pn) tg g) (ht : ∀ s H cl C cv A' fp pn, Room k A' → PTs (genY X sc s H cl C cv A' fp pn) cs tt)
    (he : ∀ s H cl C cv A' fp pn, Room k A' → PE (genY X sc s H cl C cv A' fp pn) el te) : PX X (.GeneratorExp el [⟨tg, it0, cs, 0⟩] sc p) (tGxD c P wi g tt te (own.map (·.2))) :=
  ⟨fun pins s σ H Yd En Q' I h hQ => gx_makeD G.room G.bm G.code G.blk G.nd G.nocell G.dl G.dot G.co hi hs I h fun J H2 a s5 hR M => hQ H2 a s5 (runs_gx1 G.room G.calm G.co M hg ht he hR)⟩
end
end K33
namespace K33
open PySem PySem.Spec PyProof.Rows L2

/-! ## the small language: values by number, objects in a list -/
inductive W where
  | non | bl (b : Bool) | int (i : Int) | str (x : Str) | ref (k : Nat) | adr (a : Addr)
inductive AO where
  | lst (xs : List W) | tup (xs : List W) | dK (kvs : List (Key × W)) | dT0 | ins (c : Nat) (fs : List (Str × W)) | raw (o : HO)
abbrev Hs := List AO
abbrev Slots := List (Option W)
inductive Res (α : Type) where
  | ok (a : α) (A : Hs) | exc (c : Nat) (A : Hs) | bad
inductive Fl where
  | nx (S : Slots) | rt (w : W)
abbrev ET := Slots → Hs → Res W
abbrev BT := Slots → Hs → Res Bool
abbrev LT := Slots → Hs → Res (List W)
abbrev ST := Slots → Hs → Res Fl

/-- data: what the program writes -/
def plainO : HO → Bool
  | .lst _ => true
  | .tup _ => true
  | .dK _ => true
  | .dT _ => true
  | .ins _ _ _ => true
  | _ => false
/-- the ground: the classes' addresses, the code tables -/
structure Gr where
  ga : Nat → Addr
  tabs : List Addr
  /-- what is kept beside (of tables that are not in tabs) -/
  J : Hp → Prop
  jn : ∀ {H : Hp} {p : Addr} {o : HO}, J H → H p = none → J (upd H p o)
  jp : ∀ {H : Hp} {a : Addr} {u o : HO}, J H → H a = some u → plainO u = true → J (upd H a o)
  jt : ∀ {H H' : Hp} {P : Addr}, P ∈ tabs → J H → GxR.TabG H P → GxR.Tabbed P H H' → J H'
  /-- the tables that J speaks of -/
  nest : List Addr

def RV (ρ : List Addr) : W → V → Prop
  | .non, v => v = .non
  | .bl b, v => v = .bl b
  | .int i, v => v = .int i
  | .str x, v => v = .str x
  | .ref k, v => ∃ a, v = .ref a ∧ ρ[k]? = some a
  | .adr a, v => v = .ref a
abbrev RVs (ρ : List Addr) := Paired (RV ρ)
abbrev RKV (ρ : List Addr) {κ : Type} : List (κ × W) → List (κ × V) → Prop := Paired fun p q => p.1 = q.1 ∧ RV ρ p.2 q.2
def RO (g : Gr) (ρ : List Addr) (H : Hp) (a : Addr) : AO → Prop
  | .lst xs => ∃ vs, RVs ρ xs vs ∧ H a = some (.lst vs)
  | .tup xs => ∃ vs, RVs ρ xs vs ∧ H a = some (.tup vs)
  | .dK kvs => ∃ vs, RKV ρ kvs vs ∧ H a = some (.dK vs)
  | .dT0 => H a = some (.dT [])
  | .ins c fs => ∃ dx vs, RKV ρ fs vs ∧ H a = some (.ins (g.ga c) dx vs)
  | .raw o => H a = some o
structure M (g : Gr) (ρ : List Addr) (A : Hs) (H : Hp) : Prop where
  nd : ρ.Nodup
  len : ρ.length = A.length
  obj : ∀ (k : Nat) (a : Addr) (o : AO), ρ[k]? = some a → A[k]? = some o → RO g ρ H a o
  tab : ∀ P ∈ g.tabs, GxR.TabG H P
  nt : ∀ (k : Nat) (a : Addr) (P : Array Value), ρ[k]? = some a → A[k]? = some (.raw (.tbl P)) → a ∉ g.tabs ∧ a ∉ g.nest
  inv : g.J H
abbrev Ext (ρ ρ' : List Addr) : Prop := ∃ l, ρ' = ρ ++ l
theorem Ext.refl (ρ : List Addr) : Ext ρ ρ := ⟨[], by simp⟩
theorem Ext.trans {a b c : List Addr} : Ext a b → Ext b c → Ext a c
  | ⟨l, e⟩, ⟨m, e'⟩ => ⟨l ++ m, by rw [e', e, List.append_assoc]⟩
theorem Ext.get {ρ ρ' : List Addr} (x : Ext ρ ρ') {k : Nat} {a : Addr} (h : ρ[k]? = some a) : ρ'[k]? = some a := by
  obtain ⟨l, rfl⟩ := x
  rw [List.getElem?_append_left (List.getElem?_eq_some_iff.mp h).1]; exact h
theorem RV.ext {ρ ρ' : List Addr} (x : Ext ρ ρ') : ∀ {w : W} {v : V}, RV ρ w v → RV ρ' w v
  | .non, _, h => h
  | .bl _, _, h => h
  | .int _, _, h => h
  | .str _, _, h => h
  | .ref _, _, ⟨a, e, h⟩ => ⟨a, e, x.get h⟩
  | .adr _, _, h => h
theorem RVs.ext {ρ ρ' : List Addr} (x : Ext ρ ρ') {ws : List W} {vs : List V} (h : RVs ρ ws vs) : RVs ρ' ws vs := Paired.mapP h fun _ _ q => q.ext x
theorem RKV.ext {ρ ρ' : List Addr} {κ : Type} (x : Ext ρ ρ') {ws : List (κ × W)} {vs : List (κ × V)} (h : RKV ρ ws vs) : RKV ρ' ws vs := Paired.mapP h fun _ _ q => ⟨q.1, q.2.ext x⟩
theorem RO.ext {g : Gr} {ρ ρ' : List Addr} {H : Hp} {a : Addr} (x : Ext ρ ρ') : ∀ {o : AO}, RO g ρ H a o → RO g ρ' H a o
  | .lst _, ⟨vs, r, e⟩ => ⟨vs, r.ext x, e⟩
  | .tup _, ⟨vs, r, e⟩ => ⟨vs, r.ext x, e⟩
  | .dK _, ⟨vs, r, e⟩ => ⟨vs, RKV.ext x r, e⟩
  | .dT0, h => h
  | .ins _ _, ⟨dx, vs, r, e⟩ => ⟨dx, vs, RKV.ext x r, e⟩
  | .raw _, h => h
theorem RO.some {g : Gr} {ρ : List Addr} {H : Hp} {a : Addr} : ∀ {o : AO}, RO g ρ H a o → ∃ u, H a = some u
  | .lst _, ⟨_, _, e⟩ => ⟨_, e⟩
  | .tup _, ⟨_, _, e⟩ => ⟨_, e⟩
  | .dK _, ⟨_, _, e⟩ => ⟨_, e⟩
  | .dT0, h => ⟨_, h⟩
  | .ins _ _, ⟨_, _, _, e⟩ => ⟨_, e⟩
  | .raw _, h => ⟨_, h⟩
theorem RO.at_ {g : Gr} {ρ : List Addr} {H H' : Hp} {a : Addr} (e : H' a = H a) : ∀ {o : AO}, RO g ρ H a o → RO g ρ H' a o
  | .lst _, ⟨vs, r, h⟩ => ⟨vs, r, e.trans h⟩
  | .tup _, ⟨vs, r, h⟩ => ⟨vs, r, e.trans h⟩
  | .dK _, ⟨vs, r, h⟩ => ⟨vs, r, e.trans h⟩
  | .dT0, h => e.trans h
  | .ins _ _, ⟨dx, vs, r, h⟩ => ⟨dx, vs, r, e.trans h⟩
  | .raw _, h => e.trans h

theorem Paired.len2 {α β : Type} {F : α → β → Prop} {l : List α} {m : List β} (h : Paired F l m) : l.length = m.length := Paired.length h
theorem Paired.get2 {α β : Type} {F : α → β → Prop} : ∀ {l : List α} {m : List β} {i : Nat} {x : α}, Paired F l m → l[i]? = some x → ∃ y, m[i]? = some y ∧ F x y
  | _, _, _, _, .nil, e => by simp at e
  | _, _, 0, _, .cons r _, e => by simp at e; subst e; exact ⟨_, rfl, r⟩
  | _, _, i + 1, x, .cons _ t, e => by
    obtain ⟨y, h1, h2⟩ := Paired.get2 (i := i) t (by simpa using e)
    exact ⟨y, by simpa using h1, h2⟩
theorem Paired.app2 {α β : Type} {F : α → β → Prop} : ∀ {l l' : List α} {m m' : List β}, Paired F l m → Paired F l' m' → Paired F (l ++ l') (m ++ m')
  | _, _, _, _, .nil, s => s
  | _, _, _, _, .cons r t, s => .cons r (Paired.app2 t s)
theorem Paired.set2 {α β : Type} {F : α → β → Prop} {x : α} {y : β} (r : F x y) : ∀ {l : List α} {m : List β} (i : Nat), Paired F l m → Paired F (l.set i x) (m.set i y)
  | _, _, _, .nil => .nil
  | _, _, 0, .cons _ t => .cons r t
  | _, _, i + 1, .cons q t => .cons q (Paired.set2 r i t)
theorem Paired.take2 {α β : Type} {F : α → β → Prop} : ∀ {l : List α} {m : List β} (n : Nat), Paired F l m → Paired F (l.take n) (m.take n)
  | _, _, 0, _ => .nil
  | _, _, _ + 1, .nil => .nil
  | _, _, n + 1, .cons r t => .cons r (Paired.take2 n t)
theorem Paired.drop2 {α β : Type} {F : α → β → Prop} : ∀ {l : List α} {m : List β} (n : Nat), Paired F l m → Paired F (l.drop n) (m.drop n)
  | _, _, 0, r => r
  | _, _, _ + 1, .nil => .nil
  | _, _, n + 1, .cons _ t => Paired.drop2 n t

section
variable {g : Gr} {ρ : List Addr} {A : Hs} {H : Hp}
theorem M.get (m : M g ρ A H) {k : Nat} {o : AO} (h : A[k]? = some o) : ∃ a, ρ[k]? = some a ∧ RO g ρ H a o := by
  have hk := (List.getElem?_eq_some_iff.mp h).1
  have hk' : k < ρ.length := by rw [m.len]; exact hk
  exact ⟨ρ[k], List.getElem?_eq_getElem hk', m.obj k _ o (List.getElem?_eq_getElem hk') h⟩
theorem M.at_ (m : M g ρ A H) {k : Nat} {a : Addr} {o : AO} (h : A[k]? = some o) (e : ρ[k]? = some a) : RO g ρ H a o := m.obj k a o e h
theorem M.live (m : M g ρ A H) {k : Nat} {a : Addr} (e : ρ[k]? = some a) : ∃ u, H a = some u := by
  have hk := (List.getElem?_eq_some_iff.mp e).1
  rw [m.len] at hk
  exact (m.obj k a _ e (List.getElem?_eq_getElem hk)).some
theorem M.new_nin (m : M g ρ A H) {p : Addr} (h : H p = none) : p ∉ ρ := fun hp => by
  obtain ⟨k, hk, e⟩ := List.getElem_of_mem hp
  obtain ⟨u, hu⟩ := m.live (k := k) (a := p) (by rw [List.getElem?_eq_getElem hk, e])
  rw [h] at hu; cases hu
/-- the abstract heap changes elsewhere -/
theorem M.else_ {H' : Hp} (m : M g ρ A H) (he : ∀ a ∈ ρ, H' a = H a) (ht : ∀ P ∈ g.tabs, GxR.TabG H' P) (hJ : g.J H') : M g ρ A H' :=
  ⟨m.nd, m.len, fun k a o e h => (m.obj k a o e h).at_ (he a (List.mem_of_getElem? e)), ht, m.nt, hJ⟩
theorem TabG.upd_ {P p : Addr} {o : HO} (h : GxR.TabG H P) (hp : H p = none ∨ ∃ u, H p = some u ∧ ∀ q, u ≠ .tbl q) : GxR.TabG (upd H p o) P := by
  obtain ⟨ps, e, t⟩ := h
  have : P ≠ p := fun z => by
    subst z
    rcases hp with hp | ⟨u, hu, hn⟩
    · rw [hp] at e; cases e
    · rw [e] at hu; exact hn ps (Option.some.inj hu).symm
  exact ⟨ps, by rw [upd_ne this]; exact e, t⟩
theorem M.aside {p : Addr} {o : HO} (m : M g ρ A H) (hp : H p = none) : M g ρ A (upd H p o) :=
  m.else_ (fun a ha => upd_ne fun e => m.new_nin hp (e ▸ ha)) (fun P hP => TabG.upd_ (m.tab P hP) (.inl hp)) (g.jn m.inv hp)
theorem M.tabbed {P : Addr} {H' : Hp} (m : M g ρ A H) (hP : P ∈ g.tabs) (h : GxR.Tabbed P H H') : M g ρ A H' := by
  obtain ⟨ps, e, _⟩ := m.tab P hP
  refine m.else_ (fun a ha => h.2 a fun z => ?_) (fun Q hQ => ?_) (g.jt hP m.inv (m.tab P hP) h)
  · subst z
    obtain ⟨k, hk, ek⟩ := List.getElem_of_mem ha
    have hk' : k < A.length := by rw [← m.len]; exact hk
    have r := m.obj k a _ (by rw [List.getElem?_eq_getElem hk, ek]) (List.getElem?_eq_getElem hk')
    cases ho : A[k] with
    | lst xs => rw [ho] at r; obtain ⟨_, _, z⟩ := r; rw [e] at z; cases z
    | tup xs => rw [ho] at r; obtain ⟨_, _, z⟩ := r; rw [e] at z; cases z
    | dK xs => rw [ho] at r; obtain ⟨_, _, z⟩ := r; rw [e] at z; cases z
    | dT0 => rw [ho] at r; have z : H a = some (.dT []) := r; rw [e] at z; cases z
    | ins c fs => rw [ho] at r; obtain ⟨_, _, _, z⟩ := r; rw [e] at z; cases z
    | raw o =>
      rw [ho] at r
      have z : H a = some o := r
      rw [e] at z
      have zo : o = .tbl ps := (Option.some.inj z).symm
      exact (m.nt k a ps (by rw [List.getElem?_eq_getElem hk, ek]) (by rw [List.getElem?_eq_getElem hk', ho, zo])).1 hP
  · by_cases hq : Q = P
    · subst hq; exact h.1
    · obtain ⟨qs, eq, tq⟩ := m.tab Q hQ
      exact ⟨qs, by rw [h.2 Q hq]; exact eq, tq⟩
def AO.noraw : AO → Bool
  | .raw _ => false
  | _ => true
/-- a new object -/
theorem M.push {p : Addr} {o : HO} {ao : AO} (m : M g ρ A H) (hp : H p = none) (hn : ao.noraw = true) (r : RO g (ρ ++ [p]) (upd H p o) p ao) : M g (ρ ++ [p]) (A ++ [ao]) (upd H p o) := by
  have np := m.new_nin hp
  refine ⟨List.nodup_append.mpr ⟨m.nd, by simp, fun a ha b hb => by rw [List.mem_singleton.mp hb]; exact fun e => np (e ▸ ha)⟩, by simp [m.len], fun k a o' e h => ?_, fun P hP => TabG.upd_ (m.tab P hP) (.inl hp), fun k a P e h => ?_, g.jn m.inv hp⟩
  · by_cases hk : k < ρ.length
    · rw [List.getElem?_append_left hk] at e
      rw [List.getElem?_append_left (by rw [← m.len]; exact hk)] at h
      exact ((m.obj k a o' e h).ext ⟨[p], rfl⟩).at_ (upd_ne fun z => np (by rw [← z]; exact List.mem_of_getElem? e))
    · have hk2 : k = ρ.length := by
        have := (List.getElem?_eq_some_iff.mp e).1
        simp at this
        omega
      subst hk2
      rw [List.getElem?_append_right (Nat.le_refl _)] at e
      rw [m.len, List.getElem?_append_right (Nat.le_refl _)] at h
      simp at e h
      subst e; subst h
      exact r
  · by_cases hk : k < A.length
    · rw [List.getElem?_append_left hk] at h
      rw [List.getElem?_append_left (by rw [m.len]; exact hk)] at e
      exact m.nt k a P e h
    · rw [List.getElem?_append_right (Nat.le_of_not_lt hk)] at h
      have : k - A.length = 0 := by
        have := (List.getElem?_eq_some_iff.mp h).1
        simp at this; omega
      rw [this] at h
      simp at h
      subst h; simp [AO.noraw] at hn
/-- an object written -/
theorem M.put {k : Nat} {a : Addr} {o : HO} {ao u : AO} (m : M g ρ A H) (e : ρ[k]? = some a) (hu : A[k]? = some u) (hnu : u.noraw = true) (hn : ao.noraw = true) (r : RO g ρ (upd H a o) a ao) : M g ρ (A.set k ao) (upd H a o) := by
  have hk := (List.getElem?_eq_some_iff.mp hu).1
  have ho := m.obj k a u e hu
  refine ⟨m.nd, by simp [m.len], fun j b o' ej h => ?_, fun P hP => TabG.upd_ (m.tab P hP) (.inr ?_), fun j b P e' h => ?_, ?_⟩
  · by_cases hj : j = k
    · subst hj
      rw [e] at ej; cases ej
      rw [List.getElem?_set_self hk] at h
      cases h; exact r
    · rw [List.getElem?_set_ne (Ne.symm hj)] at h
      refine (m.obj j b o' ej h).at_ (upd_ne fun z => hj ?_)
      subst z
      obtain ⟨h1, e1⟩ := List.getElem?_eq_some_iff.mp ej
      obtain ⟨h2, e2⟩ := List.getElem?_eq_some_iff.mp e
      exact (List.getElem_inj m.nd).mp (e1.trans e2.symm)
  · cases u with
    | lst xs => obtain ⟨_, _, z⟩ := ho; exact ⟨_, z, fun q y => by cases y⟩
    | tup xs => obtain ⟨_, _, z⟩ := ho; exact ⟨_, z, fun q y => by cases y⟩
    | dK xs => obtain ⟨_, _, z⟩ := ho; exact ⟨_, z, fun q y => by cases y⟩
    | dT0 => exact ⟨_, ho, fun q y => by cases y⟩
    | ins c fs => obtain ⟨_, _, _, z⟩ := ho; exact ⟨_, z, fun q y => by cases y⟩
    | raw o' => cases hnu
  · by_cases hj : j = k
    · subst hj
      rw [List.getElem?_set_self hk] at h
      cases h; simp [AO.noraw] at hn
    · rw [List.getElem?_set_ne (Ne.symm hj)] at h
      exact m.nt j b P e' h
  · cases u with
    | lst xs => obtain ⟨_, _, z⟩ := ho; exact g.jp m.inv z rfl
    | tup xs => obtain ⟨_, _, z⟩ := ho; exact g.jp m.inv z rfl
    | dK xs => obtain ⟨_, _, z⟩ := ho; exact g.jp m.inv z rfl
    | dT0 => exact g.jp m.inv ho rfl
    | ins c fs => obtain ⟨_, _, _, z⟩ := ho; exact g.jp m.inv z rfl
    | raw o' => cases hnu
end

/-! ### what is wanted of a result -/
section
variable {g : Gr} {α β : Type}
def holds (g : Gr) (ρ : List Addr) (E : XK) (r : Res α) (K : List Addr → α → Hs → Hp → Prop) : Prop := match r with
  | .ok a A => ∀ ρ' H', Ext ρ ρ' → M g ρ' A H' → K ρ' a A H'
  | .exc c A => ∀ ρ' H', Ext ρ ρ' → M g ρ' A H' → E (.ref (g.ga c)) none H'
  | .bad => False
/-- .. where the heap is the one that it is now -/
def holdsN (g : Gr) (ρ : List Addr) (H : Hp) (E : XK) (r : Res α) (K : List Addr → α → Hs → Hp → Prop) : Prop := ∀ (A : Hs), M g ρ A H → holds g ρ E r K
theorem holds.ext {ρ ρ' : List Addr} {E : XK} {r : Res α} {K : List Addr → α → Hs → Hp → Prop} (x : Ext ρ ρ') (h : holds g ρ E r K) : holds g ρ' E r K := by
  cases r with
  | ok a A => exact fun ρ'' H' e m => h ρ'' H' (x.trans e) m
  | exc c A => exact fun ρ'' H' e m => h ρ'' H' (x.trans e) m
  | bad => exact h
theorem holds.imp {ρ : List Addr} {E : XK} {r : Res α} {K K' : List Addr → α → Hs → Hp → Prop} (h : holds g ρ E r K) (w : ∀ ρ' a A' H', Ext ρ ρ' → M g ρ' A' H' → K ρ' a A' H' → K' ρ' a A' H') : holds g ρ E r K' := by
  cases r with
  | ok a A => exact fun ρ' H' e m => w _ _ _ _ e m (h ρ' H' e m)
  | exc c A => exact h
  | bad => exact h
@[reducible] def Res.bind (m : Res α) (f : α → Hs → Res β) : Res β := match m with
  | .ok a A => f a A
  | .exc c A => .exc c A
  | .bad => .bad
theorem holds.bind {ρ : List Addr} {E : XK} {m : Res α} {f : α → Hs → Res β} {K : List Addr → β → Hs → Hp → Prop} (h : holds g ρ E (m.bind f) K) : holds g ρ E m fun ρ' a A' _ => holds g ρ' E (f a A') K := by
  cases m with
  | ok a A => exact fun ρ' H' e m => h.ext e
  | exc c A => exact h
  | bad => exact h
theorem holds.ok {ρ : List Addr} {A : Hs} {E : XK} {a : α} {K : List Addr → α → Hs → Hp → Prop} {H : Hp} (h : holds g ρ E (.ok a A) K) (m : M g ρ A H) : K ρ a A H := h ρ H (Ext.refl ρ) m

/-- the slots -/
def RS1 (ρ : List Addr) : Option W → Option V → Prop
  | some w, v => ∃ x, v = some x ∧ RV ρ w x
  | none, _ => True
abbrev SR (ρ : List Addr) : Slots → L2.St → Prop := Paired (RS1 ρ)
theorem SR.ext {ρ ρ' : List Addr} (x : Ext ρ ρ') {S : Slots} {σ : L2.St} (h : SR ρ S σ) : SR ρ' S σ := Paired.mapP h fun a b q => by
  cases a with
  | none => trivial
  | some w => obtain ⟨y, e, r⟩ := q; exact ⟨y, e, r.ext x⟩
/-- the state as it is -/
structure At (g : Gr) (ρ : List Addr) (S : Slots) (A : Hs) (σ : L2.St) (H : Hp) : Prop where
  s : SR ρ S σ
  m : M g ρ A H
def KE (Q : VK) : List Addr → W → Hs → Hp → Prop := fun ρ w _ H => ∀ v, RV ρ w v → Q v H
def KB (Q : Bool → Hp → Prop) : List Addr → Bool → Hs → Hp → Prop := fun _ b _ H => Q b H
def KL (Q : List V → Hp → Prop) : List Addr → List W → Hs → Hp → Prop := fun ρ ws _ H => ∀ vs, RVs ρ ws vs → Q vs H
def KS (D : Ends) : List Addr → Fl → Hs → Hp → Prop := fun ρ f _ H => match f with
  | .nx S => ∀ σ, SR ρ S σ → D.nx σ H
  | .rt w => ∀ v, RV ρ w v → D.rt v H
def rE (g : Gr) (E : XK) (m : ET) : TE := fun σ H Q => ∃ ρ S A, At g ρ S A σ H ∧ holds g ρ E (m S A) (KE Q)
def rB (g : Gr) (E : XK) (m : BT) : TT := fun σ H Q => ∃ ρ S A, At g ρ S A σ H ∧ holds g ρ E (m S A) (KB Q)
def rL (g : Gr) (E : XK) (m : LT) : TA := fun σ H Q => ∃ ρ S A, At g ρ S A σ H ∧ holds g ρ E (m S A) (KL Q)
def rS (g : Gr) (E : XK) (m : ST) : TS := fun D σ H => ∃ ρ S A, At g ρ S A σ H ∧ holds g ρ E (m S A) (KS D)
theorem At.mk' {ρ ρ' : List Addr} {S : Slots} {A A' : Hs} {σ : L2.St} {H H' : Hp} (a : At g ρ S A σ H) (x : Ext ρ ρ') (m : M g ρ' A' H') : At g ρ' S A' σ H' := ⟨a.s.ext x, m⟩
end

section
variable {X : Cx}
theorem PE.imp {e : Expr} {t t' : TE} (h : PE X e t) (w : ∀ σ H Q, t' σ H Q → t σ H Q) : PE X e t' := ⟨fun pins s σ H Q I q => h.run pins s σ H Q I (w σ H Q q)⟩
theorem PT.imp {e : Expr} {t t' : TT} (h : PT X e t) (w : ∀ σ H Q, t' σ H Q → t σ H Q) : PT X e t' := ⟨fun pins s σ H Q I q => h.run pins s σ H Q I (w σ H Q q)⟩
theorem PW.imp {e : Expr} {t t' : TT} (h : PW X e t) (w : ∀ σ H Q, t' σ H Q → t σ H Q) : PW X e t' := ⟨fun whole pins s σ H Q I q => h.run whole pins s σ H Q I (w σ H Q q)⟩
theorem PA.imp {e : List Expr} {t t' : TA} (h : PA X e t) (w : ∀ σ H Q, t' σ H Q → t σ H Q) : PA X e t' := ⟨fun pos pins s σ H Q I q => h.run pos pins s σ H Q I (w σ H Q q)⟩
theorem PS.imp {e : Stmt} {t t' : TS} (h : PS X e t) (w : ∀ D σ H, t' D σ H → t D σ H) : PS X e t' := ⟨fun pins s σ H D I q => h.run pins s σ H D I (w D σ H q)⟩
theorem PSs.imp {e : List Stmt} {t t' : TS} (h : PSs X e t) (w : ∀ D σ H, t' D σ H → t D σ H) : PSs X e t' := ⟨fun pins s σ H D I q => h.run pins s σ H D I (w D σ H q)⟩
theorem PTs.imp {e : List Expr} {t t' : TT} (h : PTs X e t) (w : ∀ σ H Q, t' σ H Q → t σ H Q) : PTs X e t' := ⟨fun pins s σ H Q I q => h.run pins s σ H Q I (w σ H Q q)⟩
end
end K33
namespace K33
open PySem PySem.Spec PyProof.Rows L2

section
variable {X : Cx} {g : Gr} {E : XK} {ρ : List Addr} {S : Slots} {A : Hs} {σ : L2.St} {H : Hp} {β : Type} {K : List Addr → β → Hs → Hp → Prop}
theorem bindE {ma : ET} {k : W → Hs → Res β} {Q : VK} (a : At g ρ S A σ H) (h : holds g ρ E ((ma S A).bind k) K) (c : ∀ ρ1 w A1 x H1, Ext ρ ρ1 → At g ρ1 S A1 σ H1 → RV ρ1 w x → holds g ρ1 E (k w A1) K → Q x H1) : rE g E ma σ H Q :=
  ⟨ρ, S, A, a, (holds.bind h).imp fun ρ1 w A1 H1 e m hk v r => c ρ1 w A1 v H1 e (a.mk' e m) r hk⟩
theorem bindB {ma : BT} {k : Bool → Hs → Res β} {Q : Bool → Hp → Prop} (a : At g ρ S A σ H) (h : holds g ρ E ((ma S A).bind k) K) (c : ∀ ρ1 b A1 H1, Ext ρ ρ1 → At g ρ1 S A1 σ H1 → holds g ρ1 E (k b A1) K → Q b H1) : rB g E ma σ H Q :=
  ⟨ρ, S, A, a, (holds.bind h).imp fun ρ1 b A1 H1 e m hk => c ρ1 b A1 H1 e (a.mk' e m) hk⟩
theorem bindL {ma : LT} {k : List W → Hs → Res β} {Q : List V → Hp → Prop} (a : At g ρ S A σ H) (h : holds g ρ E ((ma S A).bind k) K) (c : ∀ ρ1 ws A1 xs H1, Ext ρ ρ1 → At g ρ1 S A1 σ H1 → RVs ρ1 ws xs → holds g ρ1 E (k ws A1) K → Q xs H1) : rL g E ma σ H Q :=
  ⟨ρ, S, A, a, (holds.bind h).imp fun ρ1 w A1 H1 e m hk v r => c ρ1 w A1 v H1 e (a.mk' e m) r hk⟩
theorem bindS {ma : ST} {k : Fl → Hs → Res β} {D : Ends} (a : At g ρ S A σ H) (h : holds g ρ E ((ma S A).bind k) K) (c : ∀ ρ1 S1 A1 σ1 H1, Ext ρ ρ1 → At g ρ1 S1 A1 σ1 H1 → holds g ρ1 E (k (.nx S1) A1) K → D.nx σ1 H1) (c2 : ∀ ρ1 w A1 x H1, Ext ρ ρ1 → M g ρ1 A1 H1 → RV ρ1 w x → holds g ρ1 E (k (.rt w) A1) K → D.rt x H1) : rS g E ma D σ H :=
  ⟨ρ, S, A, a, (holds.bind h).imp fun ρ1 f A1 H1 e m hk => match f, hk with
    | .nx S1, hk => fun σ1 s1 => c ρ1 S1 A1 σ1 H1 e ⟨s1, m⟩ hk
    | .rt w, hk => fun v r => c2 ρ1 w A1 v H1 e m r hk⟩

/-! ### names, constants -/
def mVar (i : Nat) : ET := fun S A => match S[i]? with
  | some (some w) => .ok w A
  | _ => .bad
def mC (w : W) : ET := fun _ A => .ok w A
theorem d_var {i : Nat} {x : Str} {pos : Pos} (hN : X.N[i]? = some x) (hv : Vis X.env.scope x) (hd : (x == ("__debug__" : Str)) = false := by decide) (hcd : (x == ("__classdict__" : Str)) = false := by decide) : PE X (.Name x pos) (rE g E (mVar i)) :=
  PE.imp (pe_var hN hv hd hcd) fun σ H Q ⟨ρ, S, A, a, h⟩ => by
    unfold mVar at h
    split at h
    · rename_i w e
      obtain ⟨y, e1, v, e2, r⟩ := Paired.get2 a.s e
      exact ⟨v, by rw [e1, e2], h.ok a.m v r⟩
    · exact h.elim
theorem d_c {e : Expr} {w : W} {v : V} (h : PE X e (tC v)) (r : ∀ ρ, RV ρ w v) : PE X e (rE g E (mC w)) :=
  PE.imp h fun σ H Q ⟨ρ, S, A, a, h⟩ => holds.ok (a := w) h a.m v (r ρ)
theorem d_int {i j pos} : PE X (.Constant (.int i) j pos) (rE g E (mC (.int i))) := d_c pe_int fun _ => rfl
theorem d_bl {b j pos} : PE X (.Constant (.bool b) j pos) (rE g E (mC (.bl b))) := d_c pe_bl fun _ => rfl
theorem d_non {j pos} : PE X (.Constant .none j pos) (rE g E (mC .non)) := d_c pe_non fun _ => rfl
theorem d_str {x j pos} : PE X (.Constant (.str x) j pos) (rE g E (mC (.str x))) := d_c pe_str fun _ => rfl
theorem d_gstr {x : Str} {y : Str} {t : Tok} {pos : Pos} (hg : Gl X x) (hm : X.mg x = some (.str y t)) (hd : (x == ("__debug__" : Str)) = false := by decide) : PE X (.Name x pos) (rE g E (mC (.str y))) := d_c (v := V.str y) (pe_glob hg hm ⟨t, rfl⟩ hd) fun _ => rfl
theorem d_gint {x : Str} {y : Int} {t : Tok} {pos : Pos} (hg : Gl X x) (hm : X.mg x = some (.int y t)) (hd : (x == ("__debug__" : Str)) = false := by decide) : PE X (.Name x pos) (rE g E (mC (.int y))) := d_c (v := V.int y) (pe_glob hg hm ⟨t, rfl⟩ hd) fun _ => rfl
/-- code that never runs -/
def mNo {α : Type} : Slots → Hs → Res α := fun _ _ => .bad
theorem rE_no {σ : L2.St} {H : Hp} {Q : VK} (h : rE g E mNo σ H Q) : False := by obtain ⟨_, _, _, _, h⟩ := h; exact h
theorem d_noE {e : Expr} : PE X e (rE g E mNo) := ⟨fun _ _ _ _ _ _ h => (rE_no h).elim⟩
theorem d_noB {e : Expr} : PT X e (rB g E mNo) := ⟨fun _ _ _ _ _ _ ⟨_, _, _, _, h⟩ => h.elim⟩
theorem d_noW {e : Expr} : PW X e (rB g E mNo) := ⟨fun _ _ _ _ _ _ _ ⟨_, _, _, _, h⟩ => h.elim⟩
theorem d_noS {e : Stmt} : PS X e (rS g E mNo) := ⟨fun _ _ _ _ _ _ ⟨_, _, _, _, h⟩ => h.elim⟩
theorem d_noSs {e : List Stmt} : PSs X e (rS g E mNo) := ⟨fun _ _ _ _ _ _ ⟨_, _, _, _, h⟩ => h.elim⟩

/-! ### two operands -/
abbrev Op2 := W → W → Hs → Res W
def mBin (f : Op2) (ma mb : ET) : ET := fun S A => (ma S A).bind fun w1 A1 => (mb S A1).bind fun w2 A2 => f w1 w2 A2
def Prim (g : Gr) (E : XK) (r : R2) (f : Op2) : Prop := ∀ ρ A H w1 w2 v1 v2 Q, M g ρ A H → RV ρ w1 v1 → RV ρ w2 v2 → holds g ρ E (f w1 w2 A) (KE Q) → r v1 v2 H Q
variable {a b c : Expr} {ma mb mc : ET} {pos : Pos}
theorem tOp_of {r : R2} {f : Op2} (hp : Prim g E r f) {Q : VK} (h : rE g E (mBin f ma mb) σ H Q) : tOp r (rE g E ma) (rE g E mb) σ H Q := by
  obtain ⟨ρ, S, A, a, h⟩ := h
  exact bindE a h fun ρ1 w1 A1 x H1 e1 a1 r1 h1 => bindE a1 h1 fun ρ2 w2 A2 y H2 e2 a2 r2 h2 => hp ρ2 A2 H2 w1 w2 x y Q a2.m (r1.ext e2) r2 h2
theorem d_op {op : Operator} {r : R2} {f : Op2} (ho : OpR X (binaryOp op) r) (hp : Prim g E r f) (ha : PE X a (rE g E ma)) (hb : PE X b (rE g E mb)) : PE X (.BinOp a op b pos) (rE g E (mBin f ma mb)) :=
  PE.imp (pe_op ho ha hb) fun _ _ _ h => tOp_of hp h
theorem d_cmp {op : CmpOp} {r : R2} {f : Op2} (ho : OpR X (compareOp op) r) (hp : Prim g E r f) (ha : PE X a (rE g E ma)) (hb : PE X b (rE g E mb)) (hm : behindInMarks op b = false := by first | exact nomark _ | rfl) : PE X (.Compare a [op] [b] pos) (rE g E (mBin f ma mb)) :=
  PE.imp (pe_cmpR ho ha hb hm) fun _ _ _ h => tOp_of hp h
/-- a value that is a bool -/
def mIsB (m : ET) : BT := fun S A => (m S A).bind fun w A1 => match w with
  | .bl b => .ok b A1
  | _ => .bad
theorem tTest_of {t : TE} {m : ET} (w : ∀ σ H Q, rE g E m σ H Q → t σ H Q) {Q : Bool → Hp → Prop} (h : rB g E (mIsB m) σ H Q) : t σ H fun x H' => ∃ k, x = .bl k ∧ Q k H' := by
  obtain ⟨ρ, S, A, a, h⟩ := h
  refine w _ _ _ (bindE a h fun ρ1 w1 A1 x H1 e1 a1 r1 h1 => ?_)
  cases w1 with
  | bl b => exact ⟨b, r1, holds.ok (a := b) h1 a1.m⟩
  | _ => exact h1.elim
theorem d_tcmp {op : CmpOp} {r : R2} {f : Op2} (ho : OpR X (compareOp op) r) (hp : Prim g E r f) (ha : PE X a (rE g E ma)) (hb : PE X b (rE g E mb)) (hm : behindInMarks op b = false := by first | exact nomark _ | rfl) : PT X (.Compare a [op] [b] pos) (rB g E (mIsB (mBin f ma mb))) :=
  PT.imp (pt_cmpR ho ha hb hm) fun _ _ _ h => tTest_of (fun _ _ _ h => tOp_of hp h) h
/-- a op b op' c -/
def mChain (f f' : Op2) (ma mb mc : ET) : ET := fun S A => (ma S A).bind fun w1 A1 => (mb S A1).bind fun w2 A2 => (f w1 w2 A2).bind fun k A3 => match k with
  | .bl true => (mc S A3).bind fun w3 A4 => f' w2 w3 A4
  | .bl false => .ok (.bl false) A3
  | _ => .bad
theorem tChain_of {r r' : R2} {f f' : Op2} (hp : Prim g E r f) (hp' : Prim g E r' f') {Q : VK} (h : rE g E (mChain f f' ma mb mc) σ H Q) : tChain r r' (rE g E ma) (rE g E mb) (rE g E mc) σ H Q := by
  obtain ⟨ρ, S, A, a, h⟩ := h
  refine bindE a h fun ρ1 w1 A1 x H1 e1 a1 r1 h1 => bindE a1 h1 fun ρ2 w2 A2 y H2 e2 a2 r2 h2 => hp ρ2 A2 H2 w1 w2 x y _ a2.m (r1.ext e2) r2 ((holds.bind h2).imp fun ρ3 k A3 H3 e3 m3 h3 v3 r3 => ?_)
  cases k with
  | bl k =>
    refine ⟨k, r3, ?_⟩
    cases k with
    | true =>
      rw [if_pos rfl]
      exact bindE (a2.mk' e3 m3) h3 fun ρ4 w4 A4 z H4 e4 a4 r4 h4 => hp' ρ4 A4 H4 w2 w4 y z Q a4.m ((r2.ext e3).ext e4) r4 h4
    | false =>
      rw [if_neg Bool.false_ne_true]
      exact holds.ok (a := W.bl false) h3 m3 _ rfl
  | _ => exact h3.elim
theorem d_chain {op op' : CmpOp} {r r' : R2} {f f' : Op2} (ho : OpR X (compareOp op) r) (hp : Prim g E r f) (ho' : OpR X (compareOp op') r') (hp' : Prim g E r' f') (ha : PE X a (rE g E ma)) (hb : PE X b (rE g E mb)) (hc : PE X c (rE g E mc))
    (hm : lastMarks [op, op'] [b, c] = false := by with_unfolding_all rfl) : PE X (.Compare a [op, op'] [b, c] pos) (rE g E (mChain f f' ma mb mc)) :=
  PE.imp (pe_chain ho ho' ha hb hc hm) fun _ _ _ h => tChain_of hp hp' h
theorem d_tchain {op op' : CmpOp} {r r' : R2} {f f' : Op2} (ho : OpR X (compareOp op) r) (hp : Prim g E r f) (ho' : OpR X (compareOp op') r') (hp' : Prim g E r' f') (ha : PE X a (rE g E ma)) (hb : PE X b (rE g E mb)) (hc : PE X c (rE g E mc))
    (hm : lastMarks [op, op'] [b, c] = false := by with_unfolding_all rfl) : PT X (.Compare a [op, op'] [b, c] pos) (rB g E (mIsB (mChain f f' ma mb mc))) :=
  PT.imp (pt_chain ho ho' ha hb hc hm) fun _ _ _ h => tTest_of (fun _ _ _ h => tChain_of hp hp' h) h

/-! ### the operations -/
def sz (n : Nat) : Bool := decide (n ≤ sizeLine)
theorem sz_ok {n : Nat} (h : sz n = true) : n ≤ sizeLine := of_decide_eq_true h
def newO (o : AO) : Hs → Res W := fun A => .ok (.ref A.length) (A ++ [o])
theorem newO_ok {o : AO} {ho : HO} {Q : VK} {p : Addr} (m : M g ρ A H) (hn : o.noraw = true) (h : holds g ρ E (newO o A) (KE Q)) (hp : H p = none) (r : RO g (ρ ++ [p]) (upd H p ho) p o) : Q (.ref p) (upd H p ho) := by
  have m' := m.push hp hn r
  refine h (ρ ++ [p]) _ ⟨[p], rfl⟩ m' _ ⟨p, rfl, ?_⟩
  rw [← m.len]
  simp
def opAdd : Op2 := fun w1 w2 A => match w1, w2 with
  | .int i, .int j => .ok (.int (i + j)) A
  | .str x, .str y => if sz (x.length + y.length) then .ok (.str (x ++ y)) A else .bad
  | .ref j, .ref k => match A[j]?, A[k]? with
    | some (.lst xs), some (.lst ys) => if sz (xs.length + ys.length) then newO (.lst (xs ++ ys)) A else .bad
    | some (.tup xs), some (.tup ys) => if xs.isEmpty then .bad else if sz (xs.length + ys.length) then (if ys.isEmpty then .ok w1 A else newO (.tup (xs ++ ys)) A) else .bad
    | _, _ => .bad
  | _, _ => .bad
def rAddAll (K : PySem.W.Frag) : R2 := fun x y H Q => rI0 (fun i j => .int (i + j)) x y H Q ∨ (∃ i j, x = .str i ∧ y = .str j ∧ i.length + j.length ≤ sizeLine ∧ Q (.str (i ++ j)) H) ∨ rCat x y H Q ∨ rCatT K x y H Q
theorem op_addAll : OpR X (binaryOp .Add) (rAddAll X.K) := op_add.or (op_add_str.or (op_cat.or op_catT))
theorem p_add {K : PySem.W.Frag} : Prim g E (rAddAll K) opAdd := by
  intro ρ A H w1 w2 v1 v2 Q m r1 r2 h
  unfold opAdd at h
  split at h
  · obtain rfl := r1; obtain rfl := r2
    exact .inl ⟨_, _, rfl, rfl, holds.ok (a := W.int _) h m _ rfl⟩
  · obtain rfl := r1; obtain rfl := r2
    split at h
    · rename_i hs
      exact .inr (.inl ⟨_, _, rfl, rfl, sz_ok hs, holds.ok (a := W.str _) h m _ rfl⟩)
    · exact h.elim
  · obtain ⟨a, rfl, ea⟩ := r1
    obtain ⟨b, rfl, eb⟩ := r2
    split at h
    · rename_i xs ys h1 h2
      obtain ⟨us, ru, hu⟩ := m.at_ h1 ea
      obtain ⟨ws, rw_, hw⟩ := m.at_ h2 eb
      split at h
      · rename_i hs
        refine .inr (.inr (.inl ⟨a, b, us, ws, rfl, rfl, hu, hw, by rw [← Paired.len2 ru, ← Paired.len2 rw_]; exact sz_ok hs, fun p hp => newO_ok m rfl h hp ⟨_, RVs.ext ⟨[p], rfl⟩ (Paired.app2 ru rw_), upd_same⟩⟩))
      · exact h.elim
    · rename_i xs ys h1 h2
      obtain ⟨us, ru, hu⟩ := m.at_ h1 ea
      obtain ⟨ws, rw_, hw⟩ := m.at_ h2 eb
      split at h
      · exact h.elim
      · rename_i hx
        split at h
        · rename_i hs
          have hx' : us ≠ [] := fun z => by
            subst z
            cases ru
            exact hx rfl
          refine .inr (.inr (.inr ⟨a, b, us, ws, rfl, rfl, .of hu, .of hw, hx', by rw [← Paired.len2 ru, ← Paired.len2 rw_]; exact sz_ok hs, fun z => ?_, fun z p hp => ?_⟩))
          · subst z
            cases rw_
            exact holds.ok (a := W.ref _) h m _ ⟨a, rfl, ea⟩
          · have hy : ys.isEmpty = false := by
              cases rw_ with
              | nil => exact absurd rfl z
              | cons _ _ => rfl
            rw [hy] at h
            exact newO_ok m rfl h hp ⟨_, RVs.ext ⟨[p], rfl⟩ (Paired.app2 ru rw_), upd_same⟩
        · exact h.elim
    · exact h.elim
  · exact h.elim
def opInt (f : Int → Int → Int) : Op2 := fun w1 w2 A => match w1, w2 with
  | .int i, .int j => .ok (.int (f i j)) A
  | _, _ => .bad
theorem p_int {f : Int → Int → Int} : Prim g E (rI0 fun i j => .int (f i j)) (opInt f) := by
  intro ρ A H w1 w2 v1 v2 Q m r1 r2 h
  unfold opInt at h
  split at h
  · obtain rfl := r1; obtain rfl := r2
    exact ⟨_, _, rfl, rfl, holds.ok (a := W.int _) h m _ rfl⟩
  · exact h.elim
def opIntC (c : Int → Int → Bool) (f : Int → Int → Int) : Op2 := fun w1 w2 A => match w1, w2 with
  | .int i, .int j => if c i j then .ok (.int (f i j)) A else .bad
  | _, _ => .bad
theorem p_intC {C : Int → Int → Prop} {c : Int → Int → Bool} {f : Int → Int → Int} (hc : ∀ i j, c i j = true → C i j) : Prim g E (rI C fun i j => .int (f i j)) (opIntC c f) := by
  intro ρ A H w1 w2 v1 v2 Q m r1 r2 h
  unfold opIntC at h
  split at h
  · obtain rfl := r1; obtain rfl := r2
    split at h
    · rename_i i j hh
      exact ⟨_, _, rfl, rfl, hc _ _ hh, holds.ok (a := W.int _) h m _ rfl⟩
    · exact h.elim
  · exact h.elim
def opMul : Op2 := fun w1 w2 A => match w1, w2 with
  | .int i, .int j => if (decide (-(2 ^ 64) < i) && decide (i < 2 ^ 64)) = true then .ok (.int (i * j)) A else .bad
  | .ref l, .int k => match A[l]? with
    | some (.lst xs) => if (decide (-(2 ^ 63) ≤ k) && decide (k < 2 ^ 63) && sz (xs.length * k.toNat)) = true then newO (.lst (List.replicate k.toNat xs).flatten) A else .bad
    | _ => .bad
  | _, _ => .bad
theorem rep2 {ρ : List Addr} {xs : List W} {vs : List V} (r : RVs ρ xs vs) : ∀ n : Nat, RVs ρ (List.replicate n xs).flatten (List.replicate n vs).flatten
  | 0 => .nil
  | n + 1 => by
    rw [List.replicate_succ, List.replicate_succ, List.flatten_cons, List.flatten_cons]
    exact Paired.app2 r (rep2 r n)
theorem op_mulAll : OpR X (binaryOp .Mult) (fun x y H Q => rI CMul (fun i j => .int (i * j)) x y H Q ∨ rRep x y H Q) := op_mul.or op_rep
theorem p_mul : Prim g E (fun x y H Q => rI CMul (fun i j => .int (i * j)) x y H Q ∨ rRep x y H Q) opMul := by
  intro ρ A H w1 w2 v1 v2 Q m r1 r2 h
  unfold opMul at h
  split at h
  · obtain rfl := r1; obtain rfl := r2
    split at h
    · rename_i hh
      simp only [Bool.and_eq_true, decide_eq_true_eq] at hh
      exact .inl ⟨_, _, rfl, rfl, .inl hh, holds.ok (a := W.int _) h m _ rfl⟩
    · exact h.elim
  · obtain ⟨a, rfl, ea⟩ := r1
    obtain rfl := r2
    split at h
    · rename_i xs h1
      obtain ⟨us, ru, hu⟩ := m.at_ h1 ea
      split at h
      · rename_i hh
        simp only [Bool.and_eq_true, decide_eq_true_eq] at hh
        refine .inr ⟨a, _, us, rfl, rfl, hu, hh.1.1, hh.1.2, by rw [← Paired.len2 ru]; exact sz_ok hh.2, fun p hp => newO_ok m rfl h hp ⟨_, RVs.ext ⟨[p], rfl⟩ (rep2 ru _), upd_same⟩⟩
      · exact h.elim
    · exact h.elim
  · exact h.elim
/-! comparing -/
def opCmp (f : Int → Int → Bool) : Op2 := fun w1 w2 A => match w1, w2 with
  | .int i, .int j => .ok (.bl (f i j)) A
  | _, _ => .bad
theorem p_cmp {f : Int → Int → Bool} : Prim g E (rI0 fun i j => .bl (f i j)) (opCmp f) := by
  intro ρ A H w1 w2 v1 v2 Q m r1 r2 h
  unfold opCmp at h
  split at h
  · obtain rfl := r1; obtain rfl := r2
    exact ⟨_, _, rfl, rfl, holds.ok (a := W.bl _) h m _ rfl⟩
  · exact h.elim
def W.isN : W → Bool
  | .non => true
  | _ => false
theorem isN_of {w : W} {v : V} (r : RV ρ w v) : decide (v = .non) = w.isN := by
  cases w with
  | non => obtain rfl := r; rfl
  | bl b => obtain rfl := r; rfl
  | int b => obtain rfl := r; rfl
  | str b => obtain rfl := r; rfl
  | ref k => obtain ⟨a, rfl, _⟩ := r; rfl
  | adr a => obtain rfl := r; rfl
def opIsN (neg : Bool) : Op2 := fun w1 w2 A => match w2 with
  | .non => .ok (.bl (neg ^^ w1.isN)) A
  | _ => .bad
theorem p_isN : Prim g E (fun x y H Q => y = .non ∧ Q (.bl (decide (x = .non))) H) (opIsN false) := by
  intro ρ A H w1 w2 v1 v2 Q m r1 r2 h
  unfold opIsN at h
  split at h
  · refine ⟨r2, ?_⟩
    rw [isN_of r1]
    exact holds.ok (a := W.bl _) h m _ (by show V.bl _ = V.bl _; rw [Bool.false_xor])
  · exact h.elim
theorem p_notN : Prim g E (fun x y H Q => y = .non ∧ Q (.bl (!decide (x = .non))) H) (opIsN true) := by
  intro ρ A H w1 w2 v1 v2 Q m r1 r2 h
  unfold opIsN at h
  split at h
  · refine ⟨r2, ?_⟩
    rw [isN_of r1]
    exact holds.ok (a := W.bl _) h m _ (by show V.bl _ = V.bl _; rw [Bool.true_xor])
  · exact h.elim
/-- data at any depth -/
def deep : Nat → Hs → W → Option PyData
  | 0, _, _ => none
  | n + 1, A, w => match w with
    | .non => some .none
    | .bl b => some (.bool b)
    | .int i => some (.int i)
    | .str x => some (.str x)
    | .adr _ => none
    | .ref k => match A[k]? with
      | some (.lst xs) => (xs.foldr (fun x acc => match deep n A x, acc with | some d, some ds => some (d :: ds) | _, _ => none) (some [])).map .list
      | some (.tup xs) => (xs.foldr (fun x acc => match deep n A x, acc with | some d, some ds => some (d :: ds) | _, _ => none) (some [])).map .tuple
      | _ => none
theorem deep_all {K : PySem.W.Frag} {n : Nat} (ih : ∀ w v d, RV ρ w v → deep n A w = some d → Dp K H v d) : ∀ (xs : List W) (vs : List V) (ds : List PyData), RVs ρ xs vs →
    xs.foldr (fun x acc => match deep n A x, acc with | some d, some ds => some (d :: ds) | _, _ => none) (some []) = some ds → DpAll K H vs ds
  | [], _, _, .nil, e => by cases e; exact .nil
  | x :: xs, v :: vs, ds, .cons r t, e => by
    rw [List.foldr_cons] at e
    split at e
    · rename_i d ds' e1 e2
      cases e
      exact .cons (ih x v d r e1) (deep_all ih xs vs ds' t e2)
    · cases e
theorem deep_ok {K : PySem.W.Frag} (m : M g ρ A H) : ∀ (n : Nat) (w : W) (v : V) (d : PyData), RV ρ w v → deep n A w = some d → Dp K H v d
  | 0, _, _, _, _, e => by cases e
  | n + 1, w, v, d, r, e => by
    unfold deep at e
    split at e
    · obtain rfl := r; cases e; exact .non
    · obtain rfl := r; cases e; exact .bl _
    · obtain rfl := r; cases e; exact .int _
    · obtain rfl := r; cases e; exact .str _
    · cases e
    · obtain ⟨a, rfl, ea⟩ := r
      split at e
      · rename_i xs h1
        obtain ⟨us, ru, hu⟩ := m.at_ h1 ea
        obtain ⟨ds, e1, rfl⟩ := Option.map_eq_some_iff.mp e
        exact .lst (.of hu) (deep_all (deep_ok m n) xs us ds ru e1)
      · rename_i xs h1
        obtain ⟨us, ru, hu⟩ := m.at_ h1 ea
        obtain ⟨ds, e1, rfl⟩ := Option.map_eq_some_iff.mp e
        exact .tup (.of hu) (deep_all (deep_ok m n) xs us ds ru e1)
      · cases e
def opEq (neg : Bool) : Op2 := fun w1 w2 A => match deep 8 A w1, deep 8 A w2 with
  | some d, some e => if (SeqAt.shaped d && SeqAt.shaped e) = true then .ok (.bl (neg ^^ PyData.eqv d e)) A else .bad
  | _, _ => .bad
theorem p_eq {K : PySem.W.Frag} : Prim g E (rEqD K) (opEq false) := by
  intro ρ A H w1 w2 v1 v2 Q m r1 r2 h
  unfold opEq at h
  split at h
  · rename_i d e h1 h2
    split at h
    · rename_i hh
      rw [Bool.and_eq_true] at hh
      exact ⟨d, e, deep_ok m _ _ _ _ r1 h1, deep_ok m _ _ _ _ r2 h2, hh.1, hh.2, holds.ok (a := W.bl _) h m _ (by show V.bl _ = V.bl _; rw [Bool.false_xor])⟩
    · exact h.elim
  · exact h.elim
theorem p_ne {K : PySem.W.Frag} : Prim g E (rNeD K) (opEq true) := by
  intro ρ A H w1 w2 v1 v2 Q m r1 r2 h
  unfold opEq at h
  split at h
  · rename_i d e h1 h2
    split at h
    · rename_i hh
      rw [Bool.and_eq_true] at hh
      exact ⟨d, e, deep_ok m _ _ _ _ r1 h1, deep_ok m _ _ _ _ r2 h2, hh.1, hh.2, holds.ok (a := W.bl _) h m _ (by show V.bl _ = V.bl _; rw [Bool.true_xor])⟩
    · exact h.elim
  · exact h.elim
end
end K33
namespace K33
open PySem PySem.Spec PyProof.Rows L2

/-! ## enumerate over a tuple -/
theorem enumNewT (t : Addr) (items : Array Value) :
    Meets (Builtin.«enumerate.__new__» ⟨[.type "enumerate", .ref t], []⟩) (fun _ R s => s.heap.IsTuple t items ∧
      R (.ok (.ret (.ref (s.heap.push { cls := .type "tuple_iterator", data := .fields #[.ref t, .int 0 0] }).objs.size)))
        { s with heap := (s.heap.push { cls := .type "tuple_iterator", data := .fields #[.ref t, .int 0 0] }).push { cls := .type "enumerate", data := .fields #[.none, .bool false, .ref s.heap.objs.size, rawInt 0, .none, .none] } }) :=
  .of_wp fun prog w A R s h => by
    obtain ⟨hp, g, d, tk, os⟩ := s; obtain ⟨hT, h⟩ := h
    have hsub := sub_enumerate
    wp_walk
    refine wpAny_stack_any fun st => wpAny_pure ?_
    split
    · rename_i c _ _ _ _ _
      cases (c == Value.type "enumerate")
      · wp_walk using wpAny_pyIter_tuple hT
        exact ⟨_, rfl, h⟩
      · wp_walk using wpAny_pyIter_tuple hT
        exact ⟨_, rfl, h⟩
    · wp_walk using wpAny_pyIter_tuple hT
      exact ⟨_, rfl, h⟩
section
variable {prog : Program} {w : World} {A : Around} {E : Value → Shared → Prop} {s : Shared}
theorem callEnumT {t : Addr} {items : Array Value} {Q : Value → Shared → Prop} (hT : s.heap.IsTuple t items)
    (h : ∀ h', IsEnum h' (s.heap.objs.size + 1) s.heap.objs.size 0 .none → h'.IsTupleIter s.heap.objs.size t 0 → h'.objs.size = s.heap.objs.size + 2 →
      (∀ b o, s.heap.get? b = some o → h'.get? b = some o) → Q (.ref (s.heap.objs.size + 1)) { s with heap := h' }) :
    wpAny (model prog w) A (call (.type "enumerate") [.ref t]) Q E s := by
  refine callType_new F.called_enumerate (by decide) (F.typeCall_enumerate_1 _) (F.newCall_enumerate_1 _) (fun obj => F.args_object_init_2 obj _) F.entry_enumerate_new (enumNewT t items) ⟨hT, ?_⟩
  have hz : (s.heap.push { cls := .type "tuple_iterator", data := .fields #[.ref t, .int 0 0] }).objs.size = s.heap.objs.size + 1 := Heap.size_push ..
  show _ ∧ _
  rw [hz]
  have he : IsEnum ((s.heap.push { cls := .type "tuple_iterator", data := .fields #[.ref t, .int 0 0] }).push { cls := .type "enumerate", data := .fields #[.none, .bool false, .ref s.heap.objs.size, rawInt 0, .none, .none] }) (s.heap.objs.size + 1) s.heap.objs.size 0 .none := by
    have q := Heap.get?_push_size (s.heap.push { cls := .type "tuple_iterator", data := .fields #[.ref t, .int 0 0] }) (o := { cls := .type "enumerate", data := .fields #[.none, .bool false, .ref s.heap.objs.size, rawInt 0, .none, .none] }) rfl
    rw [hz] at q; exact q
  exact ⟨⟨_, he, rfl⟩, h _ he ⟨_, Heap.get?_push_of_some _ (Heap.get?_push_size _ rfl), rfl, rfl⟩ (by rw [Heap.size_push, hz]) fun b o x => Heap.get?_push_of_some _ (Heap.get?_push_of_some _ x)⟩
end

/-- the tuple at a, each item in a new pair -/
def Itet (K : PySem.W.Frag) (a : Addr) : It :=
  ⟨fun i H => ∃ (xs : List V) (x : V), SqT K H a xs ∧ xs[i]? = some x, fun i H v H' => ∃ T x, v = .ref T ∧ H T = none ∧ H' = upd H T (.tup [.int (i : Nat), x]) ∧ ∀ xs, SqT K H a xs → xs[i]? = some x, fun i H => ∃ xs : List V, SqT K H a xs ∧ xs.length ≤ i⟩
theorem turn_enumT {P : Program} {w : World} {K : PySem.W.Frag} {elts : List Expr} {kk : Nat} {tpos : Pos} (a e it : Addr) :
    Turn P w K (.Tuple elts kk tpos) (Itet K a) [e, it] e (fun i h => (∃ old, IsEnum h e it ((i : Nat) : Int) old) ∧ h.IsTupleIter it a i ∧ e ≠ it ∧ a ≠ it ∧ a ≠ e) where
  mem := by simp
  obj := fun i h st b hb => by
    obtain ⟨⟨old, he⟩, ⟨o, ho, hc, hd⟩, _⟩ := st
    rcases (by simpa using hb : b = e ∨ b = it) with z | z
    · rw [z]; exact ⟨_, he, fun v q => nomatch q⟩
    · rw [z]; exact ⟨o, ho, fun v q => by rw [hd] at q; cases q⟩
  keep := fun i h h' st k => let ⟨⟨old, he⟩, hi, hne⟩ := st; ⟨⟨old, k e (by simp) _ he⟩, hi.at fun o q => k it (by simp) o q, hne⟩
  item := by
    intro X hP hw hK hc i pins s σ H E I hf st hg
    subst hP hw hK
    obtain ⟨⟨old, he⟩, hit, hne, hai, hae⟩ := st
    obtain ⟨xs, x, hq, hx⟩ := hg
    obtain ⟨its, rv, p, hz⟩ := I.tuple hq
    obtain ⟨u, hu, ru⟩ := rv.get hx
    have hel : e < s.heap.objs.size := Heap.lt_size he
    have hil : it < s.heap.objs.size := by obtain ⟨_, q, _⟩ := hit; exact Heap.lt_size q
    have hui : its.toArray[i]? = some u := by simpa using hu
    have hlt : i < its.toArray.size := (Array.getElem?_eq_some_iff.mp hui).1
    refine wpAny_pyNext_enum_itemD (Draws.tuple (A := X.A.in1) (I.ok.hd hc) it a hai its.toArray) he ⟨hit, p⟩ hlt hne (by simp only [List.mem_cons, List.not_mem_nil, or_false, not_or]; exact ⟨hne, Ne.symm hae⟩) fun y h' tk hP ho hst hT hsz hk => ?_
    rw [hui] at hP; cases hP
    refine ⟨_, rfl, wpAny_letOwnedTupleGo_enum (s := { s with heap := h', toks := tk + 1 }) ho fun h'' he' sb => ?_⟩
    have hT2 : h''.get? s.heap.objs.size = some { cls := .type "tuple", data := .seq #[.int i tk, u] } := (sb.2 _ (Nat.ne_of_gt hel)).trans hT
    have new : ObjOk X.prog X.w (upd H s.heap.objs.size (.tup [.int (i : Nat), x])) h'' s.heap.objs.size (.tup [.int (i : Nat), x]) :=
      ⟨by show 2 ≤ sizeLine; decide, [.int i tk, u], .cons ⟨_, rfl⟩ (.cons ru .nil), ⟨_, hT2, rfl, _, rfl⟩⟩
    have I1 : Inv X pins σ (upd H s.heap.objs.size (.tup [.int (i : Nat), x])) { s with heap := h'', toks := tk + 1 } :=
      I.turnedNew (ch := [e, it]) (fun b ob hb q => (sb.2 b (fun z => hb (by simp [z]))).trans (hk b ob (fun z => hb (by simp [z])) (fun z => hb (by simp [z])) q)) hf (Nat.le_refl _) new
    refine ⟨.ref s.heap.objs.size, _, I1, rfl, ⟨_, x, rfl, I.hok.fresh (Nat.le_refl _), rfl, fun ys hy => by rw [I.tuple_inj hy hq]; exact hx⟩, ⟨⟨u, ?_⟩, hst.1.at fun o q => (sb.2 it (Ne.symm hne)).trans q, hne, hai, hae⟩, fun b hb => ?_⟩
    · rw [show ((i + 1 : Nat) : Int) = (i : Int) + 1 by omega]; exact he'
    · have hb' : b < s.heap.objs.size := by
        rcases (by simpa using hb : b = e ∨ b = it) with z | z
        · rw [z]; exact hel
        · rw [z]; exact hil
      rw [upd_ne (Nat.ne_of_lt hb')]
      exact (hf b hb).1
  done := by
    intro X hP hw hK hc i pins s σ H E I hf st hg
    subst hP hw hK
    obtain ⟨⟨old, he⟩, hit, hne, hai, hae⟩ := st
    obtain ⟨xs, hq, hx⟩ := hg
    obtain ⟨its, rv, p, hz⟩ := I.tuple hq
    obtain ⟨f0, f1, f2, f3, f4, f5⟩ := hf it (by simp)
    have hl := rv.length
    have D0 : Draws X.prog X.w X.A.in1 it [it, a] 0 (fun _ _ => False) (fun j h => h.IsTupleIter it a i ∧ h.IsTuple a its.toArray) :=
      ⟨fun _ _ st => let ⟨o, ho, _⟩ := st.1; ⟨o, ho⟩, fun _ _ _ st hk => ⟨st.1.at fun o e => hk it (by simp) o e, st.2.at fun o e => hk a (by simp) o e⟩, fun _ _ _ _ h => absurd h (Nat.not_lt_zero _),
        fun s' Q E' st hE => wpAny_nextOf_tuple_end (show X.A.in1.handled = none from I.ok.hd hc) st.1 st.2 (by simp; omega) hE⟩
    exact wpAny_pyNext_enum_endD D0 he ⟨hit, p⟩ fun h' eb => ⟨rfl, I.turned (t' := s.toks) (fun b o hb q => eb b o hb q) f0 f1 f3 f4 f5⟩
  self := fun A i s Q E st h => let ⟨⟨_, he⟩, _⟩ := st; wpAny_pyIter_enum he h
def iEnumT (K : PySem.W.Frag) (ta : TA) : TI := fun σ H R => ta σ H fun vs H1 => ∃ a xs, vs = [.ref a] ∧ SqT K H1 a xs ∧ R (Itet K a) H1
theorem pi_enumT {X : Cx} {e : Expr} {ta : TA} {p pos tpos : Pos} {elts : List Expr} {kk : Nat} (hg : Gl X "enumerate") (hm : X.mg "enumerate" = none) (ha : PA X [e] ta) (hs : starEach [e] X.env = [(false, eval e X.env)] := by rfl) :
    PI X (.Tuple elts kk tpos) (.Call (.Name "enumerate" p) [e] [] pos) (iEnumT X.K ta) := by
  refine ⟨fun pins s σ H R I h => Call_ (ld_blt I hg hm boot_enumerate (PyProof.Rows.callWith_type1 (thn (ha.run pos pins s σ H _ I h) fun us s1 ⟨vs, H1, I1, r1, q1⟩ => ?_) hs rfl))⟩
  obtain ⟨a, xs, ex, hq, q⟩ := q1
  subst ex
  cases r1 with
  | cons r rr =>
    cases rr
    cases r
    obtain ⟨its, rv, p', hz⟩ := I1.tuple hq
    have hal : a < s1.heap.objs.size := by obtain ⟨o, ho, _⟩ := p'; exact Heap.lt_size ho
    refine callEnumT p' fun h' he hit hsz hk => wpAny_pyIter_enum he ?_
    have I2 : Inv X pins σ H1 { s1 with heap := h' } := I1.kept (t' := s1.toks) hk
    refine ⟨s1.heap.objs.size + 1, [s1.heap.objs.size + 1, s1.heap.objs.size], _, _, H1, rfl, I2, turn_enumT a (s1.heap.objs.size + 1) s1.heap.objs.size, ⟨⟨.none, he⟩, hit, Nat.succ_ne_self _, Nat.ne_of_lt hal, Nat.ne_of_lt (Nat.lt_succ_of_lt hal)⟩, fun b hb => ?_, q⟩
    have hle : s1.heap.objs.size ≤ b := by
      rcases (by simpa using hb : b = s1.heap.objs.size + 1 ∨ b = s1.heap.objs.size) with z | z
      · rw [z]; exact Nat.le_add_right _ _
      · rw [z]; exact Nat.le_refl _
    exact I1.fpOk hle (I1.hok.fresh hle)
end K33
namespace K33
open PySem PySem.Spec PyProof.Rows L2

section
variable {X : Cx} {g : Gr} {E : XK} {ρ : List Addr} {S : Slots} {A : Hs} {σ : L2.St} {H : Hp}
variable {a b c e : Expr} {es rest : List Expr} {ma mb mc : ET} {ba bb : BT} {ml : LT} {pos : Pos}

/-! ### truth, tests -/
def tru (A : Hs) : W → Option Bool
  | .non => some false
  | .bl b => some b
  | .int i => some (i != 0)
  | .str y => if sz y.length then some ((y.length : Int) != 0) else none
  | .adr _ => none
  | .ref k => match A[k]? with
    | some (.lst xs) => some (!xs.isEmpty)
    | some (.tup xs) => some (!xs.isEmpty)
    | some (.dK xs) => some (!xs.isEmpty)
    | _ => none
theorem Paired.emp2 {α β : Type} {F : α → β → Prop} {l : List α} {m : List β} (h : Paired F l m) : l.isEmpty = m.isEmpty := by cases h <;> rfl
theorem tru_of {K : PySem.W.Frag} {w : W} {v : V} {k : Bool} (m : M g ρ A H) (r : RV ρ w v) (h : tru A w = some k) : TruV K v H k := by
  unfold tru at h
  split at h
  · obtain rfl := r; cases h; exact rfl
  · obtain rfl := r; cases h; exact rfl
  · obtain rfl := r; cases h; exact rfl
  · obtain rfl := r
    split at h
    · rename_i hs; cases h; exact ⟨sz_ok hs, rfl⟩
    · cases h
  · cases h
  · obtain ⟨a, rfl, ea⟩ := r
    split at h
    · rename_i xs h1
      obtain ⟨us, ru, hu⟩ := m.at_ h1 ea
      cases h
      exact .inl ⟨us, .of hu, by rw [Paired.emp2 ru]⟩
    · rename_i xs h1
      obtain ⟨us, ru, hu⟩ := m.at_ h1 ea
      cases h
      exact .inr (.inl ⟨us, .of hu, by rw [Paired.emp2 ru]⟩)
    · rename_i xs h1
      obtain ⟨us, ru, hu⟩ := m.at_ h1 ea
      cases h
      exact .inr (.inr ⟨us, hu, by rw [Paired.emp2 ru]⟩)
    · cases h
def mTru (m : ET) : BT := fun S A => (m S A).bind fun w A1 => match tru A1 w with
  | some k => .ok k A1
  | none => .bad
theorem d_tru (ha : PE X a (rE g E ma)) (he : ∀ whole, isTrue a X.env whole = (do let v ← whole; standAt a.pos; holding [v] (truthy v)) := by intro _; rfl) : PT X a (rB g E (mTru ma)) :=
  PT.imp (pt_truth ha he) fun σ H Q ⟨ρ, S, A, at_, h⟩ => bindE at_ h fun ρ1 w A1 x H1 e1 a1 r1 h1 => by
    split at h1
    · rename_i k hk
      exact ⟨k, tru_of a1.m r1 hk, holds.ok (a := k) h1 a1.m⟩
    · exact h1.elim
/-! and, or, not: tests -/
def mAnd (x y : BT) : BT := fun S A => (x S A).bind fun b A1 => if b = true then y S A1 else .ok false A1
def mOr (x y : BT) : BT := fun S A => (x S A).bind fun b A1 => if b = true then .ok true A1 else y S A1
def mNot (x : BT) : BT := fun S A => (x S A).bind fun b A1 => .ok (!b) A1
theorem at_rB {Q : Bool → Hp → Prop} {m : BT} (a : At g ρ S A σ H) (h : holds g ρ E (m S A) (KB Q)) : rB g E m σ H Q := ⟨ρ, S, A, a, h⟩
theorem at_rE {Q : VK} {m : ET} (a : At g ρ S A σ H) (h : holds g ρ E (m S A) (KE Q)) : rE g E m σ H Q := ⟨ρ, S, A, a, h⟩
theorem d_and1 (ha : PT X a (rB g E ba)) : PW X (.BoolOp .And [a] pos) (rB g E ba) := pw_and1 ha
theorem d_or1 (ha : PT X a (rB g E ba)) : PW X (.BoolOp .Or [a] pos) (rB g E ba) := pw_or1 ha
theorem d_and (ha : PT X a (rB g E ba)) (hb : PW X (.BoolOp .And (b :: rest) pos) (rB g E bb)) : PW X (.BoolOp .And (a :: b :: rest) pos) (rB g E (mAnd ba bb)) :=
  PW.imp (pw_and ha hb) fun σ H Q ⟨ρ, S, A, at_, h⟩ => bindB at_ h fun ρ1 b A1 H1 e1 a1 h1 => by
    cases b with
    | true => exact at_rB a1 h1
    | false => exact holds.ok (a := false) h1 a1.m
theorem d_or (ha : PT X a (rB g E ba)) (hb : PW X (.BoolOp .Or (b :: rest) pos) (rB g E bb)) : PW X (.BoolOp .Or (a :: b :: rest) pos) (rB g E (mOr ba bb)) :=
  PW.imp (pw_or ha hb) fun σ H Q ⟨ρ, S, A, at_, h⟩ => bindB at_ h fun ρ1 b A1 H1 e1 a1 h1 => by
    cases b with
    | true => exact holds.ok (a := true) h1 a1.m
    | false => exact at_rB a1 h1
theorem d_not (ha : PT X a (rB g E ba)) : PT X (.UnaryOp .Not a pos) (rB g E (mNot ba)) :=
  PT.imp (pt_not ha) fun σ H Q ⟨ρ, S, A, at_, h⟩ => bindB at_ h fun ρ1 b A1 H1 e1 a1 h1 => holds.ok (a := !b) h1 a1.m
/-! .. as values -/
def mAndV (x y : ET) : ET := fun S A => (x S A).bind fun w A1 => match tru A1 w with
  | some true => y S A1
  | some false => .ok w A1
  | none => .bad
def mOrV (x y : ET) : ET := fun S A => (x S A).bind fun w A1 => match tru A1 w with
  | some true => .ok w A1
  | some false => y S A1
  | none => .bad
def mNotV (x : ET) : ET := fun S A => (x S A).bind fun w A1 => match tru A1 w with
  | some k => .ok (.bl (!k)) A1
  | none => .bad
theorem d_oneV {op} (ha : PE X a (rE g E ma)) : PE X (.BoolOp op [a] pos) (rE g E ma) := pe_one ha
theorem d_andV (ha : PE X a (rE g E ma)) (hb : PE X (.BoolOp .And (b :: rest) pos) (rE g E mb)) : PE X (.BoolOp .And (a :: b :: rest) pos) (rE g E (mAndV ma mb)) :=
  PE.imp (pe_andT ha hb) fun σ H Q ⟨ρ, S, A, at_, h⟩ => bindE at_ h fun ρ1 w A1 x H1 e1 a1 r1 h1 => by
    split at h1
    · rename_i hk; exact ⟨true, tru_of a1.m r1 hk, at_rE a1 h1⟩
    · rename_i hk; exact ⟨false, tru_of a1.m r1 hk, holds.ok (a := w) h1 a1.m x r1⟩
    · exact h1.elim
theorem d_orV (ha : PE X a (rE g E ma)) (hb : PE X (.BoolOp .Or (b :: rest) pos) (rE g E mb)) : PE X (.BoolOp .Or (a :: b :: rest) pos) (rE g E (mOrV ma mb)) :=
  PE.imp (pe_orT ha hb) fun σ H Q ⟨ρ, S, A, at_, h⟩ => bindE at_ h fun ρ1 w A1 x H1 e1 a1 r1 h1 => by
    split at h1
    · rename_i hk; exact ⟨true, tru_of a1.m r1 hk, holds.ok (a := w) h1 a1.m x r1⟩
    · rename_i hk; exact ⟨false, tru_of a1.m r1 hk, at_rE a1 h1⟩
    · exact h1.elim
theorem d_notV (ha : PE X a (rE g E ma)) : PE X (.UnaryOp .Not a pos) (rE g E (mNotV ma)) :=
  PE.imp (pe_notT ha) fun σ H Q ⟨ρ, S, A, at_, h⟩ => bindE at_ h fun ρ1 w A1 x H1 e1 a1 r1 h1 => by
    split at h1
    · rename_i k hk; exact ⟨k, tru_of a1.m r1 hk, holds.ok (a := W.bl (!k)) h1 a1.m _ rfl⟩
    · exact h1.elim
def mIf (t : BT) (x y : ET) : ET := fun S A => (t S A).bind fun b A1 => if b = true then x S A1 else y S A1
theorem d_if (hc : PT X c (rB g E ba)) (ha : PE X a (rE g E ma)) (hb : PE X b (rE g E mb)) : PE X (.IfExp c a b pos) (rE g E (mIf ba ma mb)) :=
  PE.imp (pe_ifExp hc ha hb) fun σ H Q ⟨ρ, S, A, at_, h⟩ => bindB at_ h fun ρ1 b A1 H1 e1 a1 h1 => by
    cases b with
    | true => exact at_rE a1 h1
    | false => exact at_rE a1 h1

/-! ### argument lists, displays -/
def mNil : LT := fun _ A => .ok [] A
def mCons (x : ET) (y : LT) : LT := fun S A => (x S A).bind fun w A1 => (y S A1).bind fun ws A2 => .ok (w :: ws) A2
theorem d_nil : PA X [] (rL g E mNil) := PA.imp pa_nil fun σ H Q ⟨ρ, S, A, at_, h⟩ => holds.ok (a := ([] : List W)) h at_.m [] .nil
theorem d_cons (ha : PE X e (rE g E ma)) (hr : PA X es (rL g E ml)) (hs : starEach (e :: es) X.env = (false, eval e X.env) :: starEach es X.env := by rfl) : PA X (e :: es) (rL g E (mCons ma ml)) :=
  PA.imp (pa_cons ha hr hs) fun σ H Q ⟨ρ, S, A, at_, h⟩ => bindE at_ h fun ρ1 w A1 x H1 e1 a1 r1 h1 => bindL a1 h1 fun ρ2 ws A2 xs H2 e2 a2 r2 h2 => holds.ok (a := w :: ws) h2 a2.m _ (.cons (r1.ext e2) r2)
def mTup (l : LT) : ET := fun S A => (l S A).bind fun ws A1 => if sz ws.length then newO (.tup ws) A1 else .bad
def mLst (l : LT) : ET := fun S A => (l S A).bind fun ws A1 => if sz ws.length then newO (.lst ws) A1 else .bad
theorem d_tup {x1} (h : PA X es (rL g E ml)) : PE X (.Tuple es x1 pos) (rE g E (mTup ml)) :=
  PE.imp (pe_tup h) fun σ H Q ⟨ρ, S, A, at_, h⟩ => bindL at_ h fun ρ1 ws A1 xs H1 e1 a1 r1 h1 => by
    split at h1
    · rename_i hs
      exact ⟨by rw [← Paired.len2 r1]; exact sz_ok hs, fun p hp => newO_ok a1.m rfl h1 hp ⟨_, r1.ext ⟨[p], rfl⟩, upd_same⟩⟩
    · exact h1.elim
theorem d_lst (h : PA X es (rL g E ml)) : PE X (.List es pos) (rE g E (mLst ml)) :=
  PE.imp (pe_lst h) fun σ H Q ⟨ρ, S, A, at_, h⟩ => bindL at_ h fun ρ1 ws A1 xs H1 e1 a1 r1 h1 => by
    split at h1
    · rename_i hs
      exact ⟨by rw [← Paired.len2 r1]; exact sz_ok hs, fun p hp => newO_ok a1.m rfl h1 hp ⟨_, r1.ext ⟨[p], rfl⟩, upd_same⟩⟩
    · exact h1.elim
def mDNew : ET := fun _ A => newO (.dK []) A
def mDNewT : ET := fun _ A => newO .dT0 A
theorem d_dnew : PE X (.Dict [] [] pos) (rE g E mDNew) :=
  PE.imp pe_dnewK fun σ H Q ⟨ρ, S, A, at_, h⟩ p hp => newO_ok at_.m rfl h hp ⟨_, .nil, upd_same⟩
theorem d_dnewT : PE X (.Dict [] [] pos) (rE g E mDNewT) :=
  PE.imp pe_dnewT fun σ H Q ⟨ρ, S, A, at_, h⟩ p hp => newO_ok at_.m rfl h hp (upd_same : upd H p (.dT []) p = _)

/-! ### subscripts -/
def opIx : Op2 := fun w1 w2 A => match w1, w2 with
  | .ref k, .int i => match A[k]? with
    | some (.lst xs) => match atI xs i with | some w => .ok w A | none => .bad
    | some (.tup xs) => match atI xs i with | some w => .ok w A | none => .bad
    | _ => .bad
  | .str z, .int i => if sz z.length then (match atI z.cps.toList i with | some c => .ok (.str ⟨#[c]⟩) A | none => .bad) else .bad
  | _, _ => .bad
theorem Paired.atI2 {α β : Type} {F : α → β → Prop} {l : List α} {m : List β} {i : Int} {x : α} (h : Paired F l m) (e : atI l i = some x) : ∃ y, atI m i = some y ∧ F x y := by
  unfold atI at e ⊢
  rw [Paired.len2 h] at e
  cases hj : ixN m.length i with
  | none => rw [hj] at e; cases e
  | some j => rw [hj] at e; exact Paired.get2 h e
theorem p_ix {K : PySem.W.Frag} : Prim g E (rIx K) opIx := by
  intro ρ A H w1 w2 v1 v2 Q m r1 r2 h
  unfold opIx at h
  split at h
  · obtain ⟨a, rfl, ea⟩ := r1
    obtain rfl := r2
    split at h
    · rename_i xs h1
      obtain ⟨us, ru, hu⟩ := m.at_ h1 ea
      split at h
      · rename_i w hw
        obtain ⟨y, hy, ry⟩ := Paired.atI2 ru hw
        exact .inl ⟨a, us, _, y, rfl, rfl, .of hu, hy, holds.ok (a := w) h m y ry⟩
      · exact h.elim
    · rename_i xs h1
      obtain ⟨us, ru, hu⟩ := m.at_ h1 ea
      split at h
      · rename_i w hw
        obtain ⟨y, hy, ry⟩ := Paired.atI2 ru hw
        exact .inr (.inl ⟨a, us, _, y, rfl, rfl, .of hu, hy, holds.ok (a := w) h m y ry⟩)
      · exact h.elim
    · exact h.elim
  · obtain rfl := r1
    obtain rfl := r2
    split at h
    · rename_i hs
      split at h
      · rename_i cc hc
        exact .inr (.inr ⟨_, _, cc, rfl, rfl, sz_ok hs, hc, holds.ok (a := W.str _) h m _ rfl⟩)
      · exact h.elim
    · exact h.elim
  · exact h.elim
theorem d_ix (ha : PE X a (rE g E ma)) (hb : PE X b (rE g E mb)) (hs : PlainIx b := by intro _ _; rfl) : PE X (.Subscript a b pos) (rE g E (mBin opIx ma mb)) :=
  PE.imp (pe_ix ix_seq ha hb hs) fun _ _ _ h => tOp_of p_ix h
/-- a dict's -/
def wKey : W → Option Key
  | .int i => some (.inl i)
  | .str x => some (.inr x)
  | _ => none
theorem wKey_of {w : W} {v : V} {k : Key} (r : RV ρ w v) (h : wKey w = some k) : v = kV k := by
  cases w with
  | int i => cases h; exact r
  | str x => cases h; exact r
  | _ => cases h
def valW (kvs : List (Key × W)) (k : Key) : Option W := (kvs.find? fun kv => decide (kv.1 = k)).map (·.2)
theorem valW_of {k : Key} : ∀ {kvs : List (Key × W)} {vs : List (Key × V)}, RKV ρ kvs vs → (∀ w, valW kvs k = some w → ∃ v, valV vs k = some v ∧ RV ρ w v) ∧ (valW kvs k = none → valV vs k = none)
  | _, _, .nil => ⟨fun w h => (by cases h), fun _ => rfl⟩
  | (k1, w1) :: kvs, (k2, v2) :: vs, .cons r t => by
    obtain ⟨e, r⟩ := r
    have e : k1 = k2 := e
    subst e
    have ih := valW_of (k := k) t
    unfold valW valV at ih ⊢
    by_cases hk : k1 = k
    · subst hk
      simp only [List.find?_cons, decide_true]
      exact ⟨fun w h => by cases h; exact ⟨v2, rfl, r⟩, fun h => by cases h⟩
    · simp only [List.find?_cons, hk, decide_false]
      exact ih
/-- what a dict has at a key: the key a text, an int; or a pair, in a dict of pairs that is empty -/
def tupKey : Option AO → Option (Option W)
  | some (.tup ws) => if (ws.all fun w => (wKey w).isSome) then some none else none
  | _ => none
def dGetO (A : Hs) (w2 : W) : Option AO → Option (Option W)
  | some (.dK kvs) => (wKey w2).map fun key => valW kvs key
  | some .dT0 => match w2 with
    | .ref j => tupKey A[j]?
    | _ => none
  | _ => none
def dGet (A : Hs) (w1 w2 : W) : Option (Option W) := match w1 with
  | .ref k => dGetO A w2 A[k]?
  | _ => none
theorem keys_of : ∀ {ws : List W} {vs : List V}, RVs ρ ws vs → (ws.all fun w => (wKey w).isSome) = true → ∃ ks : List Key, vs = ks.map kV
  | _, _, .nil, _ => ⟨[], rfl⟩
  | w :: ws, v :: vs, .cons r t, h => by
    rw [List.all_cons, Bool.and_eq_true] at h
    obtain ⟨ks, rfl⟩ := keys_of t h.2
    obtain ⟨k, hk⟩ := Option.isSome_iff_exists.mp h.1
    exact ⟨k :: ks, by rw [wKey_of r hk]; rfl⟩
def RVo (ρ : List Addr) : Option W → Option V → Prop
  | some w, ov => ∃ v, ov = some v ∧ RV ρ w v
  | none, ov => ov = none
theorem dGet_of {w1 w2 : W} {v1 v2 : V} {o : Option W} (m : M g ρ A H) (r1 : RV ρ w1 v1) (r2 : RV ρ w2 v2) (h : dGet A w1 w2 = some o) : ∃ a ov, v1 = .ref a ∧ IsD H a ∧ DGet H a v2 ov ∧ RVo ρ o ov := by
  cases w1 with
  | ref k =>
    obtain ⟨a, rfl, ea⟩ := r1
    have h : dGetO A w2 A[k]? = some o := h
    cases h1 : A[k]? with
    | none => rw [h1] at h; cases h
    | some o1 =>
      rw [h1] at h
      cases o1 with
      | dK kvs =>
        have h : (wKey w2).map (fun key => valW kvs key) = some o := h
        obtain ⟨us, ru, hu⟩ := m.at_ h1 ea
        obtain ⟨key, hk, rfl⟩ := Option.map_eq_some_iff.mp h
        obtain rfl := wKey_of r2 hk
        refine ⟨a, valV us key, rfl, .inl ⟨us, .of hu⟩, DGet.k hu, ?_⟩
        have z := valW_of (k := key) ru
        cases ho : valW kvs key with
        | some w => exact z.1 w ho
        | none => exact z.2 ho
      | dT0 =>
        have hu := m.at_ h1 ea
        cases w2 with
        | ref j =>
          obtain ⟨b, rfl, eb⟩ := r2
          have h : tupKey A[j]? = some o := h
          cases h2 : A[j]? with
          | none => rw [h2] at h; cases h
          | some o2 =>
            rw [h2] at h
            cases o2 with
            | tup ws =>
              obtain ⟨us, ru, hub⟩ := m.at_ h2 eb
              have h : (if (ws.all fun w => (wKey w).isSome) = true then some none else none) = some o := h
              split at h
              · rename_i hall
                cases h
                obtain ⟨ks, rfl⟩ := keys_of ru hall
                exact ⟨a, none, rfl, .inr ⟨[], .of hu⟩, DGet.t (k := ks) hu hub, rfl⟩
              · cases h
            | _ => cases h
        | _ => cases h
      | _ => cases h
  | _ => cases h
def opDIx : Op2 := fun w1 w2 A => match dGet A w1 w2 with
  | some (some w) => .ok w A
  | _ => .bad
theorem d_dix (hu : X.A.units + 1 < cLine) (ha : PE X a (rE g E ma)) (hb : PE X b (rE g E mb)) (hs : NoSl b := by intro _ _; rfl) : PE X (.Subscript a b pos) (rE g E (mBin opDIx ma mb)) :=
  PE.imp (pe_dget hu ha hb hs) fun σ H Q ⟨ρ, S, A, at_, h⟩ => bindE at_ h fun ρ1 w1 A1 x H1 e1 a1 r1 h1 => bindE a1 h1 fun ρ2 w2 A2 y H2 e2 a2 r2 h2 => by
    unfold opDIx at h2
    split at h2
    · rename_i w hw
      obtain ⟨p, ov, ex, _, hg, v, rfl, rv⟩ := dGet_of a2.m (r1.ext e2) r2 hw
      exact ⟨p, v, ex, hg, holds.ok (a := w) h2 a2.m v rv⟩
    · exact h2.elim
def opDIn (neg : Bool) : Op2 := fun w2 w1 A => match dGet A w1 w2 with
  | some o => .ok (.bl (neg ^^ o.isSome)) A
  | none => .bad
theorem d_din (hu : X.A.units + 1 < cLine) (ha : PE X a (rE g E ma)) (hb : PE X b (rE g E mb)) (hm : behindInMarks .In b = false := by rfl) : PE X (.Compare a [.In] [b] pos) (rE g E (mBin (opDIn false) ma mb)) :=
  PE.imp (pe_cmp (pc_din hu ha hb) hm) fun σ H Q ⟨ρ, S, A, at_, h⟩ => bindE at_ h fun ρ1 w1 A1 x H1 e1 a1 r1 h1 => bindE a1 h1 fun ρ2 w2 A2 y H2 e2 a2 r2 h2 => by
    unfold opDIn at h2
    split at h2
    · rename_i o ho
      obtain ⟨p, ov, ex, _, hg, hv⟩ := dGet_of a2.m r2 (r1.ext e2) ho
      refine ⟨p, ov, ex, hg, ?_⟩
      have eo : ov.isSome = o.isSome := by
        cases o with
        | some w => obtain ⟨v, rfl, _⟩ := hv; rfl
        | none => obtain rfl := hv; rfl
      rw [eo]
      exact holds.ok (a := W.bl _) h2 a2.m _ (by show V.bl _ = V.bl _; rw [Bool.false_xor])
    · exact h2.elim
theorem d_dnotin (hu : X.A.units + 1 < cLine) (ha : PE X a (rE g E ma)) (hb : PE X b (rE g E mb)) (hm : behindInMarks .NotIn b = false := by rfl) : PE X (.Compare a [.NotIn] [b] pos) (rE g E (mBin (opDIn true) ma mb)) :=
  PE.imp (pe_cmp (pc_dnotin hu ha hb) hm) fun σ H Q ⟨ρ, S, A, at_, h⟩ => bindE at_ h fun ρ1 w1 A1 x H1 e1 a1 r1 h1 => bindE a1 h1 fun ρ2 w2 A2 y H2 e2 a2 r2 h2 => by
    unfold opDIn at h2
    split at h2
    · rename_i o ho
      obtain ⟨p, ov, ex, _, hg, hv⟩ := dGet_of a2.m r2 (r1.ext e2) ho
      refine ⟨p, ov, ex, hg, ?_⟩
      have eo : ov.isSome = o.isSome := by
        cases o with
        | some w => obtain ⟨v, rfl, _⟩ := hv; rfl
        | none => obtain rfl := hv; rfl
      rw [eo]
      exact holds.ok (a := W.bl _) h2 a2.m _ (by show V.bl _ = V.bl _; rw [Bool.true_xor])
    · exact h2.elim
/-- .. as tests -/
theorem d_valB (h : PE X a (rE g E ma)) (he : ∀ whole, isTrue a X.env whole = (do let v ← whole; standAt a.pos; holding [v] (truthy v)) := by intro _; rfl) : PT X a (rB g E (mIsB ma)) :=
  PT.imp (pt_val h he) fun σ H Q hq => by
    obtain ⟨ρ, S, A, at_, h⟩ := hq
    refine bindE at_ h fun ρ1 w1 A1 x H1 e1 a1 r1 h1 => ?_
    cases w1 with
    | bl b => exact ⟨b, r1, holds.ok (a := b) h1 a1.m⟩
    | _ => exact h1.elim
theorem d_tdin (hu : X.A.units + 1 < cLine) (ha : PE X a (rE g E ma)) (hb : PE X b (rE g E mb)) (hm : behindInMarks .In b = false := by rfl) : PT X (.Compare a [.In] [b] pos) (rB g E (mIsB (mBin (opDIn false) ma mb))) :=
  PT.imp (pt_cmp (pc_din hu ha hb) hm) fun σ H Q hq => by
    obtain ⟨ρ, S, A, at_, h⟩ := hq
    have h := holds.bind h
    unfold mBin at h
    refine bindE at_ h fun ρ1 w1 A1 x H1 e1 a1 r1 h1 => bindE a1 h1 fun ρ2 w2 A2 y H2 e2 a2 r2 h2 => ?_
    unfold opDIn at h2
    split at h2
    · rename_i o ho
      obtain ⟨p, ov, ex, _, hg, hv⟩ := dGet_of a2.m r2 (r1.ext e2) ho
      have eo : ov.isSome = o.isSome := by
        cases o with
        | some w => obtain ⟨v, rfl, _⟩ := hv; rfl
        | none => obtain rfl := hv; rfl
      refine ⟨p, ov, ex, hg, _, rfl, ?_⟩
      rw [eo]
      have z := holds.ok (a := W.bl _) h2 a2.m
      rw [Bool.false_xor] at z
      exact holds.ok (a := o.isSome) z a2.m
    · exact h2.elim
theorem d_tdnotin (hu : X.A.units + 1 < cLine) (ha : PE X a (rE g E ma)) (hb : PE X b (rE g E mb)) (hm : behindInMarks .NotIn b = false := by rfl) : PT X (.Compare a [.NotIn] [b] pos) (rB g E (mIsB (mBin (opDIn true) ma mb))) :=
  PT.imp (pt_cmp (pc_dnotin hu ha hb) hm) fun σ H Q hq => by
    obtain ⟨ρ, S, A, at_, h⟩ := hq
    have h := holds.bind h
    unfold mBin at h
    refine bindE at_ h fun ρ1 w1 A1 x H1 e1 a1 r1 h1 => bindE a1 h1 fun ρ2 w2 A2 y H2 e2 a2 r2 h2 => ?_
    unfold opDIn at h2
    split at h2
    · rename_i o ho
      obtain ⟨p, ov, ex, _, hg, hv⟩ := dGet_of a2.m r2 (r1.ext e2) ho
      have eo : ov.isSome = o.isSome := by
        cases o with
        | some w => obtain ⟨v, rfl, _⟩ := hv; rfl
        | none => obtain rfl := hv; rfl
      refine ⟨p, ov, ex, hg, _, rfl, ?_⟩
      rw [eo]
      have z := holds.ok (a := W.bl _) h2 a2.m
      rw [Bool.true_xor] at z
      exact holds.ok (a := !o.isSome) z a2.m
    · exact h2.elim

/-! ### in a list, in a tuple, in a text -/
def flatW : W → Bool
  | .ref _ => false
  | .adr _ => false
  | _ => true
def eqW : W → W → Bool
  | .non, .non => true
  | .bl a, .bl b => a == b
  | .bl a, .int b => (if a then 1 else 0) == b
  | .int a, .bl b => a == (if b then 1 else 0)
  | .int a, .int b => a == b
  | .str a, .str b => a == b
  | _, _ => false
theorem flat_of {w : W} {v : V} (r : RV ρ w v) : flatV v = flatW w := by
  cases w with
  | ref k => obtain ⟨a, rfl, _⟩ := r; rfl
  | adr a => obtain rfl := r; rfl
  | _ => obtain rfl := r; rfl
theorem eqW_of {w w' : W} {v v' : V} (r : RV ρ w v) (r' : RV ρ w' v') : eqV v v' = eqW w w' := by
  cases w with
  | ref k => obtain ⟨a, rfl, _⟩ := r; cases w' with
    | ref k => obtain ⟨a, rfl, _⟩ := r'; rfl
    | _ => obtain rfl := r'; rfl
  | _ => obtain rfl := r; cases w' with
    | ref k => obtain ⟨a, rfl, _⟩ := r'; rfl
    | _ => obtain rfl := r'; rfl
theorem flats_of : ∀ {ws : List W} {vs : List V}, RVs ρ ws vs → vs.all flatV = ws.all flatW
  | _, _, .nil => rfl
  | _, _, .cons r t => by rw [List.all_cons, List.all_cons, flat_of r, flats_of t]
theorem inW_of {w : W} {v : V} (r : RV ρ w v) : ∀ {ws : List W} {vs : List V}, RVs ρ ws vs → inV v vs = ws.any fun y => eqW y w
  | _, _, .nil => rfl
  | _, _, .cons r' t => by
    have ih := inW_of r t
    unfold inV at ih ⊢
    rw [List.any_cons, List.any_cons, eqW_of r' r, ih]
def opIn (neg : Bool) : Op2 := fun w1 w2 A => match w2 with
  | .ref k => match A[k]? with
    | some (.lst xs) => if (flatW w1 && xs.all flatW) = true then .ok (.bl (neg ^^ xs.any fun y => eqW y w1)) A else .bad
    | some (.tup xs) => if (flatW w1 && xs.all flatW) = true then .ok (.bl (neg ^^ xs.any fun y => eqW y w1)) A else .bad
    | _ => .bad
  | .str j => match w1 with
    | .str i => .ok (.bl (neg ^^ !(Builtin.Str.occurrences j i 0 j.length 1).isEmpty)) A
    | _ => .bad
  | _ => .bad
def rInS (K : PySem.W.Frag) (neg : Bool) : R2 := fun x y H Q => rIn K neg x y H Q ∨ ∃ i j, x = .str i ∧ y = .str j ∧ Q (.bl (neg ^^ !(Builtin.Str.occurrences j i 0 j.length 1).isEmpty)) H
theorem op_inAll : OpR X (compareOp .In) (rInS X.K false) := op_in_seq.or fun pins s σ H x y v u Q I rx ry h => op_in_str pins s σ H x y v u Q I rx ry (by obtain ⟨i, j, e1, e2, q⟩ := h; rw [Bool.false_xor] at q; exact ⟨i, j, e1, e2, q⟩)
theorem op_ninAll : OpR X (compareOp .NotIn) (rInS X.K true) := op_notIn_seq.or fun pins s σ H x y v u Q I rx ry h => op_notin_str pins s σ H x y v u Q I rx ry (by obtain ⟨i, j, e1, e2, q⟩ := h; rw [Bool.true_xor] at q; exact ⟨i, j, e1, e2, q⟩)
theorem p_in {K : PySem.W.Frag} {neg : Bool} : Prim g E (rInS K neg) (opIn neg) := by
  intro ρ A H w1 w2 v1 v2 Q m r1 r2 h
  unfold opIn at h
  have key : ∀ {ws : List W} {us : List V} {p : Addr}, RVs ρ ws us → (SqL K H p us ∨ SqT K H p us) → v2 = .ref p → holds g ρ E (if (flatW w1 && ws.all flatW) = true then .ok (.bl (neg ^^ ws.any fun y => eqW y w1)) A else .bad) (KE Q) → rIn K neg v1 v2 H Q := by
    intro ws us p ru hs e h
    split at h
    · rename_i hh
      rw [Bool.and_eq_true] at hh
      refine ⟨p, us, e, hs, by rw [flat_of r1]; exact hh.1, by rw [flats_of ru]; exact hh.2, ?_⟩
      rw [inW_of r1 ru]
      have z := holds.ok (a := W.bl _) h m _ rfl
      cases neg
      · rw [Bool.false_xor] at z; exact z
      · rw [Bool.true_xor] at z; exact z
    · exact h.elim
  split at h
  · obtain ⟨a, rfl, ea⟩ := r2
    split at h
    · rename_i xs h1
      obtain ⟨us, ru, hu⟩ := m.at_ h1 ea
      exact .inl (key ru (.inl (.of hu)) rfl h)
    · rename_i xs h1
      obtain ⟨us, ru, hu⟩ := m.at_ h1 ea
      exact .inl (key ru (.inr (.of hu)) rfl h)
    · exact h.elim
  · obtain rfl := r2
    split at h
    · obtain rfl := r1
      exact .inr ⟨_, _, rfl, rfl, holds.ok (a := W.bl _) h m _ rfl⟩
    · exact h.elim
  · exact h.elim

/-! ### slices -/
def mNoPart : Slots → Hs → Res (Option Int) := fun _ A => .ok none A
def mPart (m : ET) : Slots → Hs → Res (Option Int) := fun S A => (m S A).bind fun w A1 => match w with
  | .int i => .ok (some i) A1
  | _ => .bad
def rP (g : Gr) (E : XK) (m : Slots → Hs → Res (Option Int)) : TO := fun σ H Q => ∃ ρ S A, At g ρ S A σ H ∧ holds g ρ E (m S A) fun _ o _ H' => Q o H'
theorem PO.imp {e : Option Expr} {t t' : TO} (h : PO X e t) (w : ∀ σ H Q, t' σ H Q → t σ H Q) : PO X e t' := ⟨fun pins s σ H Q I q => h.run pins s σ H Q I (w σ H Q q)⟩
theorem d_noPart : PO X none (rP g E mNoPart) := PO.imp po_none fun σ H Q ⟨ρ, S, A, a, h⟩ => holds.ok (a := (none : Option Int)) h a.m
theorem d_part (h : PE X a (rE g E ma)) : PO X (some a) (rP g E (mPart ma)) := PO.imp (po_some h) fun σ H Q ⟨ρ, S, A, at_, h⟩ => bindE at_ h fun ρ1 w1 A1 x H1 e1 a1 r1 h1 => by
  cases w1 with
  | int i => exact ⟨i, r1, holds.ok (a := some i) h1 a1.m⟩
  | _ => exact h1.elim
def cutW (xs : List W) (lo hi : Option Int) : List W := (xs.drop (HT.sIx xs.length 0 lo)).take (HT.sIx xs.length xs.length hi - HT.sIx xs.length 0 lo)
theorem cutW_of {ws : List W} {vs : List V} (r : RVs ρ ws vs) (lo hi : Option Int) : RVs ρ (cutW ws lo hi) (cutV vs lo hi) := by
  unfold cutW cutV
  rw [Paired.len2 r]
  exact Paired.take2 _ (Paired.drop2 _ r)
def cutOf (w : W) (lo hi : Option Int) (A : Hs) : Res W := match w with
  | .ref k => match A[k]? with
    | some (.lst xs) => newO (.lst (cutW xs lo hi)) A
    | some (.tup xs) => if (HT.sIx xs.length 0 lo == 0 && HT.sIx xs.length xs.length hi == xs.length) = true then .ok w A else newO (.tup (cutW xs lo hi)) A
    | _ => .bad
  | _ => .bad
def mSl (m : ET) (l u : Slots → Hs → Res (Option Int)) : ET := fun S A => (m S A).bind fun w A1 => (l S A1).bind fun lo A2 => (u S A2).bind fun hi A3 => cutOf w lo hi A3
theorem bindP {β : Type} {K : List Addr → β → Hs → Hp → Prop} {ma : Slots → Hs → Res (Option Int)} {k : Option Int → Hs → Res β} {Q : Option Int → Hp → Prop} (a : At g ρ S A σ H) (h : holds g ρ E ((ma S A).bind k) K) (c : ∀ ρ1 b A1 H1, Ext ρ ρ1 → At g ρ1 S A1 σ H1 → holds g ρ1 E (k b A1) K → Q b H1) : rP g E ma σ H Q :=
  ⟨ρ, S, A, a, (holds.bind h).imp fun ρ1 b A1 H1 e m hk => c ρ1 b A1 H1 e (a.mk' e m) hk⟩
theorem d_sl {lo hi : Option Expr} {p2 : Pos} {pl pu : Slots → Hs → Res (Option Int)} (ha : PE X a (rE g E ma)) (hl : PO X lo (rP g E pl)) (hu : PO X hi (rP g E pu)) : PE X (.Subscript a (.Slice lo hi none p2) pos) (rE g E (mSl ma pl pu)) :=
  PE.imp (pe_slice (sl_list.or sl_tupA) ha hl hu) fun σ H Q ⟨ρ, S, A, at_, h⟩ => bindE at_ h fun ρ1 w A1 x H1 e1 a1 r1 h1 => bindP a1 h1 fun ρ2 l A2 H2 e2 a2 h2 => bindP a2 h2 fun ρ3 u A3 H3 e3 a3 h3 => by
    have r3 := (r1.ext e2).ext e3
    unfold cutOf at h3
    split at h3
    · obtain ⟨p, rfl, ea⟩ := r3
      split at h3
      · rename_i xs hx
        obtain ⟨us, ru, hu'⟩ := a3.m.at_ hx ea
        exact .inl ⟨p, us, rfl, .of hu', fun q hq => newO_ok a3.m rfl h3 hq ⟨_, (cutW_of ru l u).ext ⟨[q], rfl⟩, upd_same⟩⟩
      · rename_i xs hx
        obtain ⟨us, ru, hu'⟩ := a3.m.at_ hx ea
        rw [Paired.len2 ru] at h3
        refine .inr ⟨p, us, rfl, .of hu', fun hw => ?_, fun hw q hq => ?_⟩
        · rw [if_pos (by rw [Bool.and_eq_true]; exact ⟨by simpa using hw.1, by simpa using hw.2⟩)] at h3
          exact holds.ok (a := W.ref _) h3 a3.m _ ⟨p, rfl, ea⟩
        · rw [if_neg (by rw [Bool.and_eq_true]; intro z; exact hw ⟨by simpa using z.1, by simpa using z.2⟩)] at h3
          exact newO_ok a3.m rfl h3 hq ⟨_, (cutW_of ru l u).ext ⟨[q], rfl⟩, upd_same⟩
      · exact h3.elim
    · exact h3.elim
end
end K33
namespace K33
open PySem PySem.Spec PyProof.Rows L2
section
variable {prog : Program} {w : World} {A : Around} {E : Value → Shared → Prop} {s : Shared}
/-- sorted of a tuple of ints -/
theorem collectT {l : Addr} {vs : List Value} {Q : List Value → Shared → Prop} (hl : s.heap.IsTuple l vs.toArray) (hz : vs.length ≤ sizeLine)
    (h : Q vs { s with heap := (s.heap.push (seqObj "list" #[] 0)).update s.heap.objs.size (Obj.mapSeq (· ++ vs.toArray)) }) : wpAny (model prog w) A (collect (.ref l)) Q E s := by
  obtain ⟨ot, hot, hct, nt, hdt⟩ := id hl
  unfold collect
  refine wpAny_bind (wpAny_runValue (codeAny_builtin entry_proto_collect' ?_))
  show wpAny (model prog w) _ (newList [] >>= fun r => again (.builtin "list.__iadd__" ⟨[r, .ref l], []⟩)) _ E s
  refine wpAny_bind (wpAny_newList (wpAny_pure ⟨Code.quiet_builtin _ (by decide +kernel), codeAny_builtin entry_list_iadd' ?_⟩))
  show wpAny (model prog w) _ (Builtin.List.listExtendWith (.ref s.heap.objs.size) (.ref l) (.ref s.heap.objs.size)) _ _ _
  unfold Builtin.List.listExtendWith
  have hot2 : (s.heap.push (seqObj "list" #[] 0)).get? l = some ot := Heap.get?_push_of_some _ hot
  have new0 : (s.heap.push (seqObj "list" #[] 0)).get? s.heap.objs.size = some (seqObj "list" #[] 0) := Heap.get?_push_size _ rfl
  refine wpAny_bind (wpAny_typeOf (T := "tuple") ⟨ot, hot2, hct⟩ ?_)
  have ht : (Value.type "tuple" == Value.type "tuple") = true := by rfl
  rw [if_pos (by rw [ht]; simp)]
  refine wpAny_bind (listItems_at hot2 hdt (wpAny_bind (listItems_at (xs := #[]) (n := 0) new0 rfl ?_)))
  rw [if_neg (by simp)]
  refine wpAny_bind (listUpdate_at (xs := #[]) (n := 0) new0 rfl (wpAny_pure ?_) (Nat.zero_le _) (by show (#[] ++ vs.toArray).size ≤ sizeLine + 1; simp only [Array.size_append, List.size_toArray, List.length_nil]; omega))
  show wpAny (model prog w) A (load s.heap.objs.size >>= fun o => match o.data with
    | .seq xs _ => pure xs.toList
    | _ => unsupported "internal:collect") Q E { s with heap := (s.heap.push (seqObj "list" #[] 0)).update s.heap.objs.size (Obj.mapSeq (· ++ vs.toArray)) }
  refine wpAny_bind (wpAny_load (get?_update_seq new0 _) ?_)
  show wpAny (model prog w) A (pure ((#[] : Array Value) ++ vs.toArray).toList) Q E { s with heap := (s.heap.push (seqObj "list" #[] 0)).update s.heap.objs.size (Obj.mapSeq (· ++ vs.toArray)) }
  rw [show ((#[] : Array Value) ++ vs.toArray).toList = vs by simp]
  exact wpAny_pure h
theorem sortedT {l : Addr} {vs : List Value} {ns : List Int} {Q : Value → Shared → Prop} (hl : s.heap.IsTuple l vs.toArray) (hI : IntsAre vs ns) (h64 : vs.length < 64)
    (h : ∀ (out : Array Value) (ns' : List Int), IntsAre out.toList ns' → ns'.Perm ns → ns'.Pairwise (· ≤ ·) → Q (.ref (s.heap.objs.size + 1)) { s with heap := sortedAll s.heap vs out }) :
    wpAny (model prog w) A (call (.builtin "sorted") [.ref l]) Q E s := by
  refine Calls.call_function_entry kind_sorted plain_sorted entry_sorted (args_sorted1 _) ?_
  unfold Builtin.«sorted»
  refine wpAny_bind (m := checkCount "sorted" 1 1 _) (wpAny_pure (wpAny_bind (collectT hl (by rw [sizeLine_eq]; omega) (wpAny_bind (wpAny_newList ?_)))))
  have e1 : ((s.heap.push (seqObj "list" #[] 0)).update s.heap.objs.size (Obj.mapSeq (· ++ vs.toArray))).objs.size = s.heap.objs.size + 1 := by rw [Heap.size_update, size_push']
  have e2 : (((s.heap.push (seqObj "list" #[] 0)).update s.heap.objs.size (Obj.mapSeq (· ++ vs.toArray))).push (seqObj "list" vs.toArray 0)).get? (s.heap.objs.size + 1) = some (seqObj "list" vs.toArray 0) := by
    rw [← e1]; exact Heap.get?_push_size _ rfl
  show wpAny (model prog w) _ _ _ _ { s with heap := ((s.heap.push (seqObj "list" #[] 0)).update s.heap.objs.size (Obj.mapSeq (· ++ vs.toArray))).push (seqObj "list" vs.toArray 0) }
  rw [e1]
  refine wpAny_bind (wpAny_holding (wpAny_call_entry slot_list_sort ⟨_, e2, rfl⟩ entry_list_sort (list_sort_tree e2 hI h64 fun out ns' q1 q2 q3 => ⟨_, rfl, wpAny_pure ⟨_, rfl, h out ns' q1 q2 q3⟩⟩) (args_list_sort _)))
end
def rSortedTup (K : PySem.W.Frag) : List V → Hp → VK → Prop := fun vs H Q => ∃ (a : Addr) (ns : List Int), vs = [V.ref a] ∧ SqT K H a (ns.map V.int) ∧ ns.length < 64 ∧
  ∀ (ns' : List Int) (p : Addr), ns'.Perm ns → ns'.Pairwise (· ≤ ·) → H p = none → Q (.ref p) (upd H p (.lst (ns'.map V.int)))
theorem cr_sortedTup {X : Cx} : CallR X (.builtin "sorted") (rSortedTup X.K) := by
  intro pins s σ H vs us Q I r h
  obtain ⟨a, ns, rfl, hs, h64, q⟩ := h
  obtain ⟨its, rv, hl, _⟩ := I.tuple hs
  rw [Vals.ref1 r]
  have hi := rv.ints
  refine sortedT hl hi (by rw [hi.length]; exact h64) fun out ns' h1 h2 h3 => ?_
  obtain ⟨ep, he'⟩ := PyProof.Rows.sortedAll_at s.heap its out
  have hlen : (ns'.map V.int).length ≤ sizeLine := by rw [List.length_map, h2.length_eq]; exact small64 h64
  exact ⟨.ref _, upd H (s.heap.objs.size + 1) (.lst (ns'.map V.int)), I.laid (t' := s.toks) (fun _ _ => PyProof.Rows.sortedAll_old) (Nat.le_succ _) ⟨hlen, out.toList, ep, vals_of_ints h1, he'⟩, rfl, q ns' _ h2 h3 (I.hok.fresh (Nat.le_succ _))⟩
end K33
namespace K33
open PySem PySem.Spec PyProof.Rows L2

/-! ints in order -/
def ins1 (i : Int) : List Int → List Int
  | [] => [i]
  | j :: js => if i ≤ j then i :: j :: js else j :: ins1 i js
def isort : List Int → List Int
  | [] => []
  | i :: is => ins1 i (isort is)
theorem ins1_perm (i : Int) : ∀ l, (ins1 i l).Perm (i :: l)
  | [] => .refl _
  | j :: js => by
    unfold ins1
    split
    · exact .refl _
    · exact ((ins1_perm i js).cons j).trans (.swap i j js)
theorem isort_perm : ∀ l, (isort l).Perm l
  | [] => .refl _
  | i :: is => (ins1_perm i _).trans ((isort_perm is).cons i)
theorem ins1_sorted (i : Int) : ∀ l, l.Pairwise (· ≤ ·) → (ins1 i l).Pairwise (· ≤ ·)
  | [], _ => by simp [ins1]
  | j :: js, h => by
    obtain ⟨h1, h2⟩ := List.pairwise_cons.mp h
    unfold ins1
    split
    · rename_i hij
      refine List.pairwise_cons.mpr ⟨fun k hk => ?_, h⟩
      rcases List.mem_cons.mp hk with rfl | hk
      · exact hij
      · exact Int.le_trans hij (h1 k hk)
    · rename_i hij
      refine List.pairwise_cons.mpr ⟨fun k hk => ?_, ins1_sorted i js h2⟩
      rcases List.mem_cons.mp ((ins1_perm i js).mem_iff.mp hk) with rfl | hk
      · omega
      · exact h1 k hk
theorem isort_sorted : ∀ l, (isort l).Pairwise (· ≤ ·)
  | [] => .nil
  | i :: is => ins1_sorted i _ (isort_sorted is)
theorem sorted_eq : ∀ {l m : List Int}, l.Perm m → l.Pairwise (· ≤ ·) → m.Pairwise (· ≤ ·) → l = m
  | [], m, p, _, _ => (List.nil_perm.mp p).symm
  | i :: l, [], p, _, _ => absurd p.length_eq (by simp)
  | i :: l, j :: m, p, h1, h2 => by
    obtain ⟨a1, a2⟩ := List.pairwise_cons.mp h1
    obtain ⟨b1, b2⟩ := List.pairwise_cons.mp h2
    have e : i = j := by
      have hi : i ∈ j :: m := p.mem_iff.mp List.mem_cons_self
      have hj : j ∈ i :: l := p.mem_iff.mpr List.mem_cons_self
      rcases List.mem_cons.mp hi with e | hi
      · exact e
      · rcases List.mem_cons.mp hj with e | hj
        · exact e.symm
        · exact Int.le_antisymm (a1 j hj) (b1 i hi)
    subst e
    rw [sorted_eq (p.cons_inv) a2 b2]
theorem sorted_is {l ns : List Int} (p : l.Perm ns) (h : l.Pairwise (· ≤ ·)) : l = isort ns := sorted_eq (p.trans (isort_perm ns).symm) h (isort_sorted ns)

section
variable {X : Cx} {g : Gr} {E : XK} {ρ : List Addr} {S : Slots} {A : Hs} {σ : L2.St} {H : Hp}
variable {a b c e o : Expr} {es rest : List Expr} {ma mb mc : ET} {ba bb : BT} {ml : LT} {pos : Pos}

abbrev OpL := List W → Hs → Res W
def mCall (f : OpL) (l : LT) : ET := fun S A => (l S A).bind f
def PrimL (g : Gr) (E : XK) (r : List V → Hp → VK → Prop) (f : OpL) : Prop := ∀ ρ A H ws vs Q, M g ρ A H → RVs ρ ws vs → holds g ρ E (f ws A) (KE Q) → r vs H Q
theorem tCB_of {r : List V → Hp → VK → Prop} {f : OpL} (hp : PrimL g E r f) {Q : VK} (h : rE g E (mCall f ml) σ H Q) : tCB r (rL g E ml) σ H Q := by
  obtain ⟨ρ, S, A, at_, h⟩ := h
  exact bindL at_ h fun ρ1 ws A1 xs H1 e1 a1 r1 h1 => hp ρ1 A1 H1 ws xs Q a1.m r1 h1
theorem d_callB {id : String} {x : Str} {p : Pos} {r : List V → Hp → VK → Prop} {f : OpL} (hc : CallR X (.builtin id) r) (hp : PrimL g E r f) (hg : Gl X x) (hm : X.mg x = none) (hv : bootBuiltins x = some (.builtin id)) (ha : PA X (e :: es) (rL g E ml)) (hn : x ≠ "__name__" := by decide) (hdb : (x == ("__debug__" : Str)) = false := by decide)
    (he : starEach (e :: es) X.env = (false, eval e X.env) :: starEach es X.env := by rfl) (hpl : (backTo pos (starEach es X.env)).any (·.1) = false := by rfl) : PE X (.Call (.Name x p) (e :: es) [] pos) (rE g E (mCall f ml)) :=
  PE.imp (pe_callB hc hg hm hv ha hn hdb he hpl) fun _ _ _ h => tCB_of hp h
theorem d_callTy {T : String} {x : Str} {p : Pos} {r : List V → Hp → VK → Prop} {f : OpL} (hc : CallR X (.type T) r) (hp : PrimL g E r f) (hg : Gl X x) (hm : X.mg x = none) (hv : bootBuiltins x = some (.type T)) (ha : PA X (e :: es) (rL g E ml)) (hn : x ≠ "__name__" := by decide) (hdb : (x == ("__debug__" : Str)) = false := by decide)
    (he : starEach (e :: es) X.env = (false, eval e X.env) :: starEach es X.env := by rfl) (hpl : (backTo pos (starEach es X.env)).any (·.1) = false := by rfl) : PE X (.Call (.Name x p) (e :: es) [] pos) (rE g E (mCall f ml)) :=
  PE.imp (pe_callTy hc hg hm hv ha hn hdb he hpl) fun _ _ _ h => tCB_of hp h
theorem CallR.or2 {f : Value} {r r' : List V → Hp → VK → Prop} (h : CallR X f r) (h' : CallR X f r') : CallR X f (fun xs H Q => r xs H Q ∨ r' xs H Q) := by
  intro pins s σ H xs us Q I rs q
  rcases q with q | q
  · exact h pins s σ H xs us Q I rs q
  · exact h' pins s σ H xs us Q I rs q
theorem RVs.one {w : W} {vs : List V} (r : RVs ρ [w] vs) : ∃ v, vs = [v] ∧ RV ρ w v := by
  cases r with
  | cons r t => cases t; exact ⟨_, rfl, r⟩
/-- one argument, an object -/
def onO (f : AO → Hs → Res W) : OpL := fun ws A => match ws with
  | [.ref k] => match A[k]? with
    | some o => f o A
    | none => .bad
  | _ => .bad
theorem onO_of {r : List V → Hp → VK → Prop} {f : AO → Hs → Res W} (h : ∀ (ρ : List Addr) (A : Hs) (H : Hp) (k : Nat) (a : Addr) (o : AO) (Q : VK), M g ρ A H → ρ[k]? = some a → A[k]? = some o → RO g ρ H a o → holds g ρ E (f o A) (KE Q) → r [.ref a] H Q) : PrimL g E r (onO f) := by
  intro ρ A H ws vs Q m rs hh
  unfold onO at hh
  split at hh
  · obtain ⟨v, rfl, a, rfl, ea⟩ := RVs.one rs
    split at hh
    · rename_i o ho
      exact h ρ A H _ a o Q m ea ho (m.at_ ho ea) hh
    · exact hh.elim
  · exact hh.elim
/-! len -/
def opLen : OpL := fun ws A => match ws with
  | [.str y] => if sz y.length then .ok (.int y.length) A else .bad
  | [.ref k] => match A[k]? with
    | some (.lst xs) => .ok (.int xs.length) A
    | some (.tup xs) => .ok (.int xs.length) A
    | some (.dK xs) => .ok (.int xs.length) A
    | _ => .bad
  | _ => .bad
def rLenA (K : PySem.W.Frag) : List V → Hp → VK → Prop := fun xs H Q => (∃ x n, xs = [x] ∧ LenV K x H n ∧ Q (.int n) H) ∨ ∃ a kvs, xs = [V.ref a] ∧ H a = some (.dK kvs) ∧ Q (.int kvs.length) H
theorem call_lenA : CallR X (.builtin "len") (rLenA X.K) := CallR.or2 call_len call_lenD
theorem p_len {K : PySem.W.Frag} : PrimL g E (rLenA K) opLen := by
  intro ρ A H ws vs Q m rs h
  unfold opLen at h
  split at h
  · obtain ⟨v, rfl, r⟩ := RVs.one rs
    obtain rfl := r
    split at h
    · rename_i hs; exact .inl ⟨_, _, rfl, ⟨sz_ok hs, rfl⟩, holds.ok (a := W.int _) h m _ rfl⟩
    · exact h.elim
  · obtain ⟨v, rfl, a, rfl, ea⟩ := RVs.one rs
    split at h
    · rename_i xs h1
      obtain ⟨us, ru, hu⟩ := m.at_ h1 ea
      exact .inl ⟨_, us.length, rfl, .inl ⟨us, .of hu, rfl⟩, holds.ok (a := W.int _) h m _ (by rw [Paired.len2 ru]; rfl)⟩
    · rename_i xs h1
      obtain ⟨us, ru, hu⟩ := m.at_ h1 ea
      exact .inl ⟨_, us.length, rfl, .inr ⟨us, .of hu, rfl⟩, holds.ok (a := W.int _) h m _ (by rw [Paired.len2 ru]; rfl)⟩
    · rename_i xs h1
      obtain ⟨us, ru, hu⟩ := m.at_ h1 ea
      exact .inr ⟨a, us, rfl, hu, holds.ok (a := W.int _) h m _ (by rw [Paired.len2 ru]; rfl)⟩
    · exact h.elim
  · exact h.elim
/-! tuple, list -/
def opTuple : OpL := fun ws A => match ws with
  | [.ref k] => match A[k]? with
    | some (.lst xs) => newO (.tup xs) A
    | some (.tup _) => .ok (.ref k) A
    | _ => .bad
  | _ => .bad
theorem p_tuple {K : PySem.W.Frag} : PrimL g E (fun xs H Q => ∃ p ys, xs = [.ref p] ∧ ((SqL K H p ys ∧ ∀ l, H l = none → Q (.ref l) (upd H l (.tup ys))) ∨ (SqT K H p ys ∧ Q (.ref p) H))) opTuple := by
  intro ρ A H ws vs Q m rs h
  unfold opTuple at h
  split at h
  · obtain ⟨v, rfl, a, rfl, ea⟩ := RVs.one rs
    split at h
    · rename_i xs h1
      obtain ⟨us, ru, hu⟩ := m.at_ h1 ea
      exact ⟨a, us, rfl, .inl ⟨.of hu, fun l hl => newO_ok m rfl h hl ⟨_, ru.ext ⟨[l], rfl⟩, upd_same⟩⟩⟩
    · rename_i xs h1
      obtain ⟨us, ru, hu⟩ := m.at_ h1 ea
      exact ⟨a, us, rfl, .inr ⟨.of hu, holds.ok (a := W.ref _) h m _ ⟨a, rfl, ea⟩⟩⟩
    · exact h.elim
  · exact h.elim
def kW : Key → W
  | .inl i => .int i
  | .inr x => .str x
theorem kW_of (k : Key) : RV ρ (kW k) (kV k) := by cases k <;> rfl
theorem kWs_of : ∀ {kvs : List (Key × W)} {vs : List (Key × V)}, RKV ρ kvs vs → RVs ρ (kvs.map fun kv => kW kv.1) (vs.map fun kv => kV kv.1)
  | _, _, .nil => .nil
  | p :: _, q :: _, .cons r t => .cons (by show RV ρ (kW p.1) (kV q.1); rw [r.1]; exact kW_of _) (kWs_of t)
def opList : OpL := onO fun o A => match o with
  | .lst xs => newO (.lst xs) A
  | .tup xs => newO (.lst xs) A
  | .dK kvs => newO (.lst (kvs.map fun kv => kW kv.1)) A
  | _ => .bad
def rListA (K : PySem.W.Frag) : List V → Hp → VK → Prop := fun xs H Q => (∃ p ys, xs = [.ref p] ∧ (SqL K H p ys ∨ SqT K H p ys) ∧ ∀ l, H l = none → Q (.ref l) (upd H l (.lst ys))) ∨ ∃ (a : Addr) (kvs : List (Key × V)), xs = [.ref a] ∧ Rd H a (.dK kvs) ∧ ∀ p, H p = none → Q (.ref p) (upd H p (.lst (kvs.map fun kv => kV kv.1)))
theorem call_listA (hc : X.calm = true) : CallR X (.type "list") (rListA X.K) := CallR.or2 call_list_of (call_listD hc)
theorem p_list {K : PySem.W.Frag} : PrimL g E (rListA K) opList := onO_of fun ρ A H k a o Q m ea ho ro h => by
  cases o with
  | lst xs => obtain ⟨us, ru, hu⟩ := ro; exact .inl ⟨a, us, rfl, .inl (.of hu), fun l hl => newO_ok m rfl h hl ⟨_, ru.ext ⟨[l], rfl⟩, upd_same⟩⟩
  | tup xs => obtain ⟨us, ru, hu⟩ := ro; exact .inl ⟨a, us, rfl, .inr (.of hu), fun l hl => newO_ok m rfl h hl ⟨_, ru.ext ⟨[l], rfl⟩, upd_same⟩⟩
  | dK kvs => obtain ⟨us, ru, hu⟩ := ro; exact .inr ⟨a, us, rfl, .of hu, fun l hl => newO_ok m rfl h hl ⟨_, (kWs_of ru).ext ⟨[l], rfl⟩, upd_same⟩⟩
  | _ => exact h.elim
/-! dict: of pairs, a copy -/
def pairW (A : Hs) : W → Option (Key × W)
  | .ref j => match A[j]? with
    | some (.tup [k, v]) => (wKey k).map fun key => (key, v)
    | _ => none
  | _ => none
def pairsW (A : Hs) : List W → Option (List (Key × W))
  | [] => some []
  | w :: ws => match pairW A w, pairsW A ws with
    | some p, some ps => some (p :: ps)
    | _, _ => none
def putW (kvs : List (Key × W)) (k : Key) (v : W) : List (Key × W) :=
  if (kvs.any fun kv => decide (kv.1 = k)) = true then kvs.map (fun kv => if kv.1 = k then (kv.1, v) else kv) else kvs ++ [(k, v)]
def mergeW (kvs more : List (Key × W)) : List (Key × W) := more.foldl (fun acc kv => putW acc kv.1 kv.2) kvs
theorem anyK_of {k : Key} : ∀ {kvs : List (Key × W)} {vs : List (Key × V)}, RKV ρ kvs vs → (kvs.any fun kv => decide (kv.1 = k)) = (vs.any fun kv => decide (kv.1 = k))
  | _, _, .nil => rfl
  | p :: _, q :: _, .cons r t => by rw [List.any_cons, List.any_cons, anyK_of t, r.1]
theorem mapK_of {k : Key} {w : W} {v : V} (rv : RV ρ w v) : ∀ {kvs : List (Key × W)} {vs : List (Key × V)}, RKV ρ kvs vs → RKV ρ (kvs.map (fun kv => if kv.1 = k then (kv.1, w) else kv)) (vs.map (fun kv => if kv.1 = k then (kv.1, v) else kv))
  | _, _, .nil => .nil
  | p :: _, q :: _, .cons r t => by
    refine .cons ?_ (mapK_of rv t)
    show ((if p.1 = k then (p.1, w) else p).1 = (if q.1 = k then (q.1, v) else q).1 ∧ RV ρ (if p.1 = k then (p.1, w) else p).2 (if q.1 = k then (q.1, v) else q).2)
    rw [← r.1]
    by_cases h : p.1 = k
    · rw [if_pos h, if_pos h]; exact ⟨rfl, rv⟩
    · rw [if_neg h, if_neg h]; exact r
theorem putW_of {k : Key} {w : W} {v : V} (rv : RV ρ w v) {kvs : List (Key × W)} {vs : List (Key × V)} (r : RKV ρ kvs vs) : RKV ρ (putW kvs k w) (putK vs k v) := by
  unfold putW putK
  rw [anyK_of r]
  split
  · exact mapK_of rv r
  · exact Paired.app2 r (.cons ⟨rfl, rv⟩ .nil)
theorem mergeW_of : ∀ {more : List (Key × W)} {vm : List (Key × V)} {kvs : List (Key × W)} {vs : List (Key × V)}, RKV ρ more vm → RKV ρ kvs vs → RKV ρ (mergeW kvs more) (mergeK vs vm)
  | [], _, _, _, .nil, r => r
  | p :: more, q :: vm, kvs, vs, .cons z t, r => by
    show RKV ρ (mergeW (putW kvs p.1 p.2) more) (mergeK (putK vs q.1 q.2) vm)
    refine mergeW_of t ?_
    rw [← z.1]
    exact putW_of z.2 r
theorem RVs.two {w w' : W} {vs : List V} (r : RVs ρ [w, w'] vs) : ∃ v v', vs = [v, v'] ∧ RV ρ w v ∧ RV ρ w' v' := by
  cases r with
  | cons r t => cases t with
    | cons r' t' => cases t'; exact ⟨_, _, rfl, r, r'⟩
theorem pairsW_of {K : PySem.W.Frag} (m : M g ρ A H) : ∀ {ws : List W} {vs : List V} {ps : List (Key × W)}, RVs ρ ws vs → pairsW A ws = some ps → ∃ (as : List Addr) (kvs : List (Key × V)), vs = as.map V.ref ∧ Paired (fun p kv => SqT K H p [kV kv.1, kv.2]) as kvs ∧ RKV ρ ps kvs
  | _, _, _, .nil, e => by cases e; exact ⟨[], [], rfl, .nil, .nil⟩
  | w :: ws, v :: vs, ps, .cons r t, e => by
    unfold pairsW at e
    split at e
    · rename_i p ps' e1 e2
      cases e
      obtain ⟨as, kvs, rfl, q1, q2⟩ := pairsW_of (K := K) m t e2
      unfold pairW at e1
      split at e1
      · obtain ⟨a, rfl, ea⟩ := r
        split at e1
        · rename_i k v2 hj
          obtain ⟨us, ru, hu⟩ := m.at_ hj ea
          obtain ⟨key, hk, rfl⟩ := Option.map_eq_some_iff.mp e1
          obtain ⟨vk, vb, rfl, rk, rv⟩ := RVs.two ru
          obtain rfl := wKey_of rk hk
          exact ⟨a :: as, (key, vb) :: kvs, rfl, .cons (SqT.of hu) q1, .cons ⟨rfl, rv⟩ q2⟩
        · cases e1
      · cases e1
    · cases e
def opDict : OpL := onO fun o A => match o with
  | .lst xs => match pairsW A xs with
    | some ps => newO (.dK (mergeW [] ps)) A
    | none => .bad
  | .dK kvs => newO (.dK kvs) A
  | _ => .bad
def rDictA (K : PySem.W.Frag) : List V → Hp → VK → Prop := fun xs H Q => (∃ (a : Addr) (ps : List Addr) (kvs : List (Key × V)), xs = [.ref a] ∧ SqL K H a (ps.map V.ref) ∧ Paired (fun p kv => SqT K H p [kV kv.1, kv.2]) ps kvs ∧
    ∀ p, H p = none → Q (.ref p) (upd H p (.dK (mergeK [] kvs)))) ∨ ∃ (a : Addr) (kvs : List (Key × V)), xs = [.ref a] ∧ Rd H a (.dK kvs) ∧ ∀ p, H p = none → Q (.ref p) (upd H p (.dK kvs))
theorem call_dictA (hc : X.calm = true) : CallR X (.type "dict") (rDictA X.K) := CallR.or2 (call_dictP hc) call_dictD
theorem p_dict {K : PySem.W.Frag} : PrimL g E (rDictA K) opDict := onO_of fun ρ A H k a o Q m ea ho ro h => by
  cases o with
  | lst xs =>
    obtain ⟨us, ru, hu⟩ := ro
    dsimp only at h
    split at h
    · rename_i ps hps
      obtain ⟨as, kvs, rfl, q1, q2⟩ := pairsW_of (K := K) m ru hps
      exact .inl ⟨a, as, kvs, rfl, .of hu, q1, fun p hp => newO_ok m rfl h hp ⟨_, RKV.ext ⟨[p], rfl⟩ (mergeW_of q2 .nil), upd_same⟩⟩
    · exact h.elim
  | dK kvs => obtain ⟨us, ru, hu⟩ := ro; exact .inr ⟨a, us, rfl, .of hu, fun l hl => newO_ok m rfl h hl ⟨_, RKV.ext ⟨[l], rfl⟩ ru, upd_same⟩⟩
  | _ => exact h.elim
/-! sorted, sum -/
def intsW : List W → Option (List Int)
  | [] => some []
  | .int i :: ws => (intsW ws).map (i :: ·)
  | _ :: _ => none
theorem intsW_of : ∀ {ws : List W} {vs : List V} {ns : List Int}, RVs ρ ws vs → intsW ws = some ns → vs = ns.map V.int
  | [], _, _, .nil, e => by cases e; rfl
  | w :: ws, _, ns, .cons r t, e => by
    cases w with
    | int i =>
      obtain ⟨ms, e1, rfl⟩ := Option.map_eq_some_iff.mp (show (intsW ws).map (i :: ·) = some ns from e)
      obtain rfl := r
      rw [intsW_of t e1]; rfl
    | _ => cases e
theorem ints_rv : ∀ ns : List Int, RVs ρ (ns.map W.int) (ns.map V.int)
  | [] => .nil
  | _ :: ns => .cons rfl (ints_rv ns)
def sortOf (A : Hs) : Option (List Int) → Res W
  | some ns => if decide (ns.length < 64) then newO (.lst ((isort ns).map W.int)) A else .bad
  | none => .bad
def keysI : List (Key × W) → Option (List Int)
  | [] => some []
  | (.inl i, _) :: r => (keysI r).map (i :: ·)
  | _ :: _ => none
theorem keysI_of : ∀ {kvs : List (Key × W)} {vs : List (Key × V)} {ns : List Int}, RKV ρ kvs vs → keysI kvs = some ns → vs.map (·.1) = ns.map Sum.inl
  | [], _, _, .nil, e => by cases e; rfl
  | (k, w) :: r, (k', v) :: _, ns, .cons q t, e => by
    cases k with
    | inl i =>
      obtain ⟨ms, e1, rfl⟩ := Option.map_eq_some_iff.mp (show (keysI r).map (i :: ·) = some ns from e)
      have e2 : (Sum.inl i : Key) = k' := q.1
      rw [List.map_cons, keysI_of t e1, ← e2]; rfl
    | inr x => cases e
def opSorted : OpL := onO fun o A => match o with
  | .lst xs => sortOf A (intsW xs)
  | .tup xs => sortOf A (intsW xs)
  | .dK [(.inr x, _)] => newO (.lst [.str x]) A
  | .dK kvs => sortOf A (keysI kvs)
  | _ => .bad
def rSortA (K : PySem.W.Frag) : List V → Hp → VK → Prop := fun vs H Q => rSorted K vs H Q ∨ rSortedTup K vs H Q ∨
  (∃ (a : Addr) (kvs : List (Key × V)) (ks : List Str), vs = [.ref a] ∧ Rd H a (.dK kvs) ∧ kvs.map (·.1) = ks.map Sum.inr ∧ ks.length < 64 ∧ ∀ ys p, ys.Perm ks → sortedS ys = true → H p = none → Q (.ref p) (upd H p (.lst (ys.map V.str)))) ∨
  (∃ (a : Addr) (kvs : List (Key × V)) (ks : List Int), vs = [.ref a] ∧ Rd H a (.dK kvs) ∧ kvs.map (·.1) = ks.map Sum.inl ∧ ks.length < 64 ∧ ∀ (ys : List Int) (p : Addr), ys.Perm ks → ys.Pairwise (· ≤ ·) → H p = none → Q (.ref p) (upd H p (.lst (ys.map V.int))))
theorem call_sortA (hc : X.calm = true) : CallR X (.builtin "sorted") (rSortA X.K) := CallR.or2 cr_sorted (CallR.or2 cr_sortedTup (CallR.or2 (call_sortedD hc) (call_sortedDI hc)))
theorem sort_fin {ns : List Int} {Q : VK} (m : M g ρ A H) (h : holds g ρ E (sortOf A (some ns)) (KE Q)) : ns.length < 64 ∧ ∀ (ns' : List Int) (p : Addr), ns'.Perm ns → ns'.Pairwise (· ≤ ·) → H p = none → Q (.ref p) (upd H p (.lst (ns'.map V.int))) := by
  unfold sortOf at h
  dsimp only at h
  split at h
  · rename_i hl
    refine ⟨of_decide_eq_true hl, fun ns' p hp hs hn => ?_⟩
    rw [sorted_is hp hs]
    exact newO_ok m rfl h hn ⟨_, (ints_rv _).ext ⟨[p], rfl⟩, upd_same⟩
  · exact h.elim
theorem p_sorted {K : PySem.W.Frag} : PrimL g E (rSortA K) opSorted := onO_of fun ρ A H k a o Q m ea ho ro h => by
  cases o with
  | lst xs =>
    obtain ⟨us, ru, hu⟩ := ro
    have h : holds g ρ E (sortOf A (intsW xs)) (KE Q) := h
    cases hi : intsW xs with
    | none => rw [hi] at h; exact h.elim
    | some ns =>
      rw [hi] at h
      obtain rfl := intsW_of ru hi
      obtain ⟨h1, h2⟩ := sort_fin m h
      exact .inl ⟨a, ns, rfl, .of hu, h1, h2⟩
  | tup xs =>
    obtain ⟨us, ru, hu⟩ := ro
    have h : holds g ρ E (sortOf A (intsW xs)) (KE Q) := h
    cases hi : intsW xs with
    | none => rw [hi] at h; exact h.elim
    | some ns =>
      rw [hi] at h
      obtain rfl := intsW_of ru hi
      obtain ⟨h1, h2⟩ := sort_fin m h
      exact .inr (.inl ⟨a, ns, rfl, .of hu, h1, h2⟩)
  | dK kvs =>
    obtain ⟨us, ru, hu⟩ := ro
    have gen : holds g ρ E (sortOf A (keysI kvs)) (KE Q) → rSortA K [.ref a] H Q := fun h => by
      cases hi : keysI kvs with
      | none => rw [hi] at h; exact h.elim
      | some ns =>
        rw [hi] at h
        obtain ⟨h1, h2⟩ := sort_fin m h
        exact .inr (.inr (.inr ⟨a, us, ns, rfl, .of hu, keysI_of ru hi, h1, h2⟩))
    match kvs, ru, h, gen with
    | [], ru, h, gen => exact gen h
    | [(.inr x, w)], ru, h, gen =>
      cases ru with
      | cons q t =>
        cases t
        rename_i q2
        refine .inr (.inr (.inl ⟨a, _, [x], rfl, .of hu, ?_, (by show 1 < 64; decide), fun ys p hp _ hn => ?_⟩))
        · rw [List.map_cons, ← q.1]; rfl
        · rw [List.perm_singleton.mp hp]
          exact newO_ok m rfl (show holds g ρ E (newO (.lst [.str x]) A) (KE Q) from h) hn ⟨_, .cons rfl .nil, upd_same⟩
    | [(.inl i, w)], ru, h, gen => exact gen h
    | (.inl i, w) :: q :: r, ru, h, gen => exact gen h
    | (.inr x, w) :: q :: r, ru, h, gen => exact gen h
  | _ => exact h.elim
def opSum : OpL := onO fun o A => match o with
  | .lst xs => match intsW xs with
    | some ns => .ok (.int ns.sum) A
    | none => .bad
  | _ => .bad
theorem p_sum {K : PySem.W.Frag} : PrimL g E (rSum K) opSum := onO_of fun ρ A H k a o Q m ea ho ro h => by
  cases o with
  | lst xs =>
    obtain ⟨us, ru, hu⟩ := ro
    dsimp only at h
    split at h
    · rename_i ns hi
      obtain rfl := intsW_of ru hi
      exact ⟨a, ns, rfl, .of hu, holds.ok (a := W.int _) h m _ rfl⟩
    · exact h.elim
  | _ => exact h.elim
end
end K33
namespace K33
open PySem PySem.Spec PyProof.Rows L2

/-! ## statements -/
/-- turns, counted down -/
def loopN {τ : Type} (b : τ) (step : τ → τ) : Nat → τ := fun n => Nat.rec b (fun _ ih => step ih) n
theorem loopN_succ {τ : Type} (b : τ) (step : τ → τ) (n : Nat) : loopN b step (n + 1) = step (loopN b step n) := rfl
/-- a target: a name, or names in a tuple -/
inductive Tg where
  | nm (i : Nat) | tp (is : List Nat)
def setsW : List Nat → List W → Slots → Slots
  | i :: is, w :: ws, S => setsW is ws (S.set i (some w))
  | _, _, S => S
def setsV : List Nat → List V → L2.St → L2.St
  | i :: is, v :: vs, σ => setsV is vs (σ.set i (some v))
  | _, _, σ => σ
def Tg.put (t : Tg) (w : W) (S : Slots) (A : Hs) : Option Slots := match t with
  | .nm i => some (S.set i (some w))
  | .tp is => match w with
    | .ref k => match A[k]? with
      | some (.tup ws) => if ws.length = is.length then some (setsW is ws S) else none
      | _ => none
    | _ => none
def Tg.ix : Tg → List Nat
  | .nm i => [i]
  | .tp is => is
def gAll : List Nat → TGs
  | [] => gNil
  | i :: is => gCons (gName i) (gAll is)
def gT (K : PySem.W.Frag) : Tg → TG
  | .nm i => gName i
  | .tp is => gTup K is.length (gAll is)
theorem wipe_set {σ : L2.St} {i : Nat} {v : V} : ∀ {vs : List Nat}, i ∈ vs → wipe (σ.set i (some v)) vs = wipe σ vs
  | j :: vs, h => by
    unfold wipe
    by_cases hm : i ∈ vs
    · rw [wipe_set hm]
    · rcases List.mem_cons.mp h with rfl | h
      · have key : ∀ (us : List Nat) (σ : L2.St), i ∉ us → wipe (σ.set i (some v)) us = (wipe σ us).set i (some v) := by
          intro us
          induction us with
          | nil => intro σ _; rfl
          | cons k us ih =>
            intro σ hk
            unfold wipe
            rw [ih σ fun z => hk (List.mem_cons_of_mem _ z), List.set_comm _ _ (fun z : i = k => hk (by rw [z]; exact List.mem_cons_self))]
        rw [key vs σ hm, List.set_set]
      · exact absurd h hm
section
variable {X : Cx} {g : Gr} {E : XK} {ρ : List Addr} {S : Slots} {A : Hs} {σ : L2.St} {H : Hp}
theorem SR.put {w : W} {v : V} {i : Nat} (s : SR ρ S σ) (r : RV ρ w v) : SR ρ (S.set i (some w)) (σ.set i (some v)) := Paired.set2 (F := RS1 ρ) (x := some w) (y := some v) (show ∃ y, some v = some y ∧ RV ρ w y from ⟨v, rfl, r⟩) i s
theorem sets_of : ∀ {is : List Nat} {ws : List W} {vs : List V} {S : Slots} {σ : L2.St}, RVs ρ ws vs → ws.length = is.length → SR ρ S σ →
    SR ρ (setsW is ws S) (setsV is vs σ) ∧ (∀ (H : Hp) (Q : L2.St → Hp → Prop), Q (setsV is vs σ) H → gAll is vs σ H Q) ∧ ∀ us : List Nat, (∀ i ∈ is, i ∈ us) → wipe (setsV is vs σ) us = wipe σ us
  | [], [], _, S, σ, .nil, _, s => ⟨s, fun H Q q => ⟨rfl, q⟩, fun _ _ => rfl⟩
  | i :: is, w :: ws, v :: vs, S, σ, .cons r t, hl, s => by
    obtain ⟨h1, h2, h3⟩ := sets_of (is := is) t (by simpa using hl) (s.put (i := i) r)
    refine ⟨h1, fun H Q q => ⟨v, vs, rfl, h2 H Q q⟩, fun us hu => ?_⟩
    show wipe (setsV is vs (σ.set i (some v))) us = _
    rw [h3 us fun j hj => hu j (List.mem_cons_of_mem _ hj), wipe_set (hu i List.mem_cons_self)]
  | i :: is, [], _, _, _, _, hl, _ => by simp at hl
  | [], w :: ws, _, _, _, _, hl, _ => by simp at hl
theorem put_of {K : PySem.W.Frag} {t : Tg} {w : W} {v : V} {S' : Slots} (m : M g ρ A H) (s : SR ρ S σ) (r : RV ρ w v) (h : t.put w S A = some S') :
    ∃ σ', SR ρ S' σ' ∧ (∀ Q : L2.St → Hp → Prop, Q σ' H → gT K t v σ H Q) ∧ ∀ us : List Nat, (∀ i ∈ t.ix, i ∈ us) → wipe σ' us = wipe σ us := by
  cases t with
  | nm i =>
    cases h
    exact ⟨_, s.put r, fun Q q => q, fun us hu => wipe_set (hu i (List.mem_singleton.mpr rfl))⟩
  | tp is =>
    cases w with
    | ref k =>
      obtain ⟨a, rfl, ea⟩ := r
      have h : (match A[k]? with
        | some (.tup ws) => if ws.length = is.length then some (setsW is ws S) else none
        | _ => none) = some S' := h
      split at h
      · rename_i ws hk
        obtain ⟨us, ru, hu⟩ := m.at_ hk ea
        split at h
        · rename_i hl
          cases h
          obtain ⟨h1, h2, h3⟩ := sets_of ru hl s
          exact ⟨_, h1, fun Q q => ⟨a, us, rfl, .of hu, by rw [← Paired.len2 ru]; exact hl, h2 H Q q⟩, h3⟩
        · cases h
      · cases h
    | _ => cases h

variable {e o i : Expr} {ma mb mc : ET} {ba : BT} {ml : LT} {sa sb : ST} {st : Stmt} {rest p q : List Stmt} {pos : Pos}
def mNext : ST := fun S A => .ok (.nx S) A
def mSeq (x y : ST) : ST := fun S A => (x S A).bind fun f A1 => match f with
  | .nx S1 => y S1 A1
  | .rt w => .ok (.rt w) A1
theorem at_rS {D : Ends} {m : ST} (a : At g ρ S A σ H) (h : holds g ρ E (m S A) (KS D)) : rS g E m D σ H := ⟨ρ, S, A, a, h⟩
theorem d_snil : PSs X [] (rS g E mNext) := PSs.imp pss_nil fun D σ H ⟨ρ, S, A, a, h⟩ => holds.ok (a := Fl.nx S) h a.m σ a.s
theorem bindS' {β : Type} {K : List Addr → β → Hs → Hp → Prop} {ma : ST} {k : Fl → Hs → Res β} {D : Ends} (a : At g ρ S A σ H) (h : holds g ρ E ((ma S A).bind k) K)
    (c : ∀ ρ1 S1 A1 σ1 H1, Ext ρ ρ1 → At g ρ1 S1 A1 σ1 H1 → holds g ρ1 E (k (.nx S1) A1) K → D.nx σ1 H1) (c2 : ∀ ρ1 w A1 x H1, Ext ρ ρ1 → M g ρ1 A1 H1 → RV ρ1 w x → holds g ρ1 E (k (.rt w) A1) K → D.rt x H1) : rS g E ma D σ H := bindS a h c c2
theorem d_scons (h1 : PS X st (rS g E sa)) (h2 : PSs X rest (rS g E sb)) : PSs X (st :: rest) (rS g E (mSeq sa sb)) :=
  PSs.imp (pss_cons h1 h2) fun D σ H ⟨ρ, S, A, a, h⟩ => bindS a h (fun ρ1 S1 A1 σ1 H1 e1 a1 h1 => at_rS a1 h1) fun ρ1 w A1 x H1 e1 m1 r1 h1 => holds.ok (a := Fl.rt w) h1 m1 x r1
def mDrop (m : ET) : ST := fun S A => (m S A).bind fun _ A1 => .ok (.nx S) A1
theorem d_sexpr (he : PE X e (rE g E ma)) (hs : swapsWith e none pos.line X.env = pure false := by rfl) : PS X (.Expr e pos) (rS g E (mDrop ma)) :=
  PS.imp (ps_expr he hs) fun D σ H ⟨ρ, S, A, a, h⟩ => bindE a h fun ρ1 w A1 x H1 e1 a1 r1 h1 => holds.ok (a := Fl.nx S) h1 a1.m σ a1.s
def mRet (m : ET) : ST := fun S A => (m S A).bind fun w A1 => .ok (.rt w) A1
theorem d_sret (he : PE X e (rE g E ma)) : PS X (.Return (some e) pos) (rS g E (mRet ma)) :=
  PS.imp (ps_ret he) fun D σ H ⟨ρ, S, A, a, h⟩ => bindE a h fun ρ1 w A1 x H1 e1 a1 r1 h1 => holds.ok (a := Fl.rt w) h1 a1.m x r1
def mRetN : ST := fun _ A => .ok (.rt .non) A
theorem d_sretN : PS X (.Return none pos) (rS g E mRetN) := PS.imp ps_retN fun D σ H ⟨ρ, S, A, a, h⟩ => holds.ok (a := Fl.rt .non) h a.m _ rfl
def mIfS (c : BT) (x y : ST) : ST := fun S A => (c S A).bind fun b A1 => if b = true then x S A1 else y S A1
theorem d_sif (hc : PT X e (rB g E ba)) (ha : PSs X p (rS g E sa)) (hb : PSs X q (rS g E sb)) : PS X (.If e p q pos) (rS g E (mIfS ba sa sb)) :=
  PS.imp (ps_if hc ha hb) fun D σ H ⟨ρ, S, A, a, h⟩ => bindB a h fun ρ1 b A1 H1 e1 a1 h1 => by
    cases b with
    | true => exact at_rS a1 h1
    | false => exact at_rS a1 h1
theorem d_spass : PS X (.Pass pos) (rS g E mNext) := PS.imp ps_pass fun D σ H ⟨ρ, S, A, a, h⟩ => holds.ok (a := Fl.nx S) h a.m σ a.s
/-! stores -/
def mAsg (m : ET) (t : Tg) : ST := fun S A => (m S A).bind fun w A1 => match t.put w S A1 with
  | some S1 => .ok (.nx S1) A1
  | none => .bad
theorem asg_of {K : PySem.W.Frag} {t : Tg} {D : Ends} (h : rS g E (mAsg ma t) D σ H) : tAsg (rE g E ma) (gT K t) D σ H := by
  obtain ⟨ρ, S, A, a, h⟩ := h
  refine bindE a h fun ρ1 w A1 x H1 e1 a1 r1 h1 => ?_
  split at h1
  · rename_i S1 hS
    obtain ⟨σ', s', k, _⟩ := put_of (K := K) a1.m a1.s r1 hS
    exact k _ (holds.ok (a := Fl.nx S1) h1 a1.m σ' s')
  · exact h1.elim
theorem d_sset {j : Nat} {x : Str} {pos' : Pos} (hN : X.N.Nodup) (hi : X.N[j]? = some x) (hx : Loc X.env.scope x) (he : PE X e (rE g E ma)) (hs : swapsWith e (some (.Name x pos')) pos.line X.env = pure false := by rfl) (hf : X.fn x = true ∨ X.env.scope.names.lookup x = some .local := by first | exact .inl rfl | exact .inr rfl | assumption) :
    PS X (.Assign [.Name x pos'] e pos) (rS g E (mAsg ma (.nm j))) := PS.imp (ps_set hN hi hx he hs hf) fun D σ H h => asg_of (K := X.K) (t := .nm j) h
theorem d_sasg {tg : Expr} {t : Tg} (he : PE X e (rE g E ma)) (hg : PG X tg (gT X.K t)) (hs : swapsWithSole [tg] e pos.line X.env = pure false := by rfl) (hw : swappedStores [tg] e X.env = pure none := by rfl)
    (h1 : (assignEach [tg] X.env).map (·.2) = [assign tg X.env] := by rfl) : PS X (.Assign [tg] e pos) (rS g E (mAsg ma t)) := PS.imp (ps_asg he hg hs hw h1) fun D σ H h => asg_of h
theorem d_gname {j : Nat} {x : Str} (hN : X.N.Nodup) (hi : X.N[j]? = some x) (hx : Loc X.env.scope x) (hf : X.fn x = true ∨ X.env.scope.names.lookup x = some .local := by first | exact .inl rfl | exact .inr rfl | assumption) : PG X (.Name x pos) (gT X.K (.nm j)) := pg_name hN hi hx hf
theorem d_gnil : PGs X [] (gAll []) := pgs_nil
theorem d_gcons {j : Nat} {is : List Nat} {tg : Expr} {tgs : List Expr} (h1 : PG X tg (gT X.K (.nm j))) (h2 : PGs X tgs (gAll is)) (hs : (assignEach (tg :: tgs) X.env).map (·.2) = assign tg X.env :: (assignEach tgs X.env).map (·.2) := by rfl) : PGs X (tg :: tgs) (gAll (j :: is)) := pgs_cons h1 h2 hs
theorem d_gtup {is : List Nat} {es : List Expr} {k : Nat} (hc : X.calm = true) (h : PGs X es (gAll is)) (hn : (assignEach es X.env).length = is.length := by rfl) (hst : (assignEach es X.env).findIdx? (·.1) = none := by rfl) : PG X (.Tuple es k pos) (gT X.K (.tp is)) := pg_tup hc h hn hst
/-- x, y = a, b -/
def mPar (l : LT) (is : List Nat) : ST := fun S A => (l S A).bind fun ws A1 => if ws.length = is.length then .ok (.nx (setsW is ws S)) A1 else .bad
theorem d_spar2 {j k : Nat} {x y : Str} {a b : Expr} {px py pt : Pos} {kt k2 pt2} (hc : X.calm = true) (hN : X.N.Nodup) (hi : X.N[j]? = some x) (hj : X.N[k]? = some y) (hij : j ≠ k)
    (hx : X.env.scope.names.lookup x = some .local) (hy : X.env.scope.names.lookup y = some .local) (ha : PA X [a, b] (rL g E ml))
    (hw : swappedStores [.Tuple [.Name x px, .Name y py] kt pt] (.Tuple [a, b] k2 pt2) X.env = pure (some [x, y]))
    (hs : swapsWithSole [.Tuple [.Name x px, .Name y py] kt pt] (.Tuple [a, b] k2 pt2) pos.line X.env = pure false := by rfl) :
    PS X (.Assign [.Tuple [.Name x px, .Name y py] kt pt] (.Tuple [a, b] k2 pt2) pos) (rS g E (mPar ml [j, k])) :=
  PS.imp (ps_par hc hN hi hj hij hx hy ha hw hs) fun D σ H ⟨ρ, S, A, at_, h⟩ => bindL at_ h fun ρ1 ws A1 xs H1 e1 a1 r1 h1 => by
    split at h1
    · rename_i hl
      match ws, xs, r1, hl with
      | [w1, w2], [v1, v2], .cons r (.cons r' .nil), _ => exact ⟨v1, v2, rfl, holds.ok (a := Fl.nx _) h1 a1.m _ ((a1.s.put r).put r')⟩
    · exact h1.elim
theorem d_spar3 {j k l : Nat} {x y z : Str} {a b c : Expr} {px py pz pt : Pos} {kt k2 pt2} (hc : X.calm = true) (hN : X.N.Nodup) (hi : X.N[j]? = some x) (hj : X.N[k]? = some y) (hl : X.N[l]? = some z) (hij : j ≠ k) (hil : j ≠ l) (hjl : k ≠ l)
    (hx : X.env.scope.names.lookup x = some .local) (hy : X.env.scope.names.lookup y = some .local) (hz : X.env.scope.names.lookup z = some .local) (ha : PA X [a, b, c] (rL g E ml))
    (hw : swappedStores [.Tuple [.Name x px, .Name y py, .Name z pz] kt pt] (.Tuple [a, b, c] k2 pt2) X.env = pure (some [x, y, z]))
    (hs : swapsWithSole [.Tuple [.Name x px, .Name y py, .Name z pz] kt pt] (.Tuple [a, b, c] k2 pt2) pos.line X.env = pure false := by rfl) :
    PS X (.Assign [.Tuple [.Name x px, .Name y py, .Name z pz] kt pt] (.Tuple [a, b, c] k2 pt2) pos) (rS g E (mPar ml [j, k, l])) :=
  PS.imp (ps_par3 hc hN hi hj hl hij hil hjl hx hy hz ha hw hs) fun D σ H ⟨ρ, S, A, at_, h⟩ => bindL at_ h fun ρ1 ws A1 xs H1 e1 a1 r1 h1 => by
    split at h1
    · rename_i hl
      match ws, xs, r1, hl with
      | [w1, w2, w3], [v1, v2, v3], .cons r (.cons r' (.cons r'' .nil)), _ => exact ⟨v1, v2, v3, rfl, holds.ok (a := Fl.nx _) h1 a1.m _ (((a1.s.put r).put r').put r'')⟩
    · exact h1.elim

/-! ### while -/
def whStep (c : BT) (b : ST) (ih : ST) : ST := fun S A => (c S A).bind fun k A1 => if k = true then (b S A1).bind (fun f A2 => match f with
    | .nx S2 => ih S2 A2
    | .rt w => .ok (.rt w) A2) else .ok (.nx S) A1
def mWhile (fuel : Nat) (c : BT) (b : ST) : ST := loopN (fun _ _ => .bad) (whStep c b) fuel
theorem d_swhile {fuel : Nat} (hp : PassesOwn (model X.prog X.w) X.A X.env X.xe) (hc : PT X e (rB g E ba)) (hb : PSs X p (rS g E sa)) : PS X (.While e p [] pos) (rS g E (mWhile fuel ba sa)) :=
  PS.imp (ps_while hp hc hb) fun D σ H h0 => by
    refine ⟨fun m σ H => rS g E (mWhile m ba sa) D σ H, ⟨fuel, h0⟩, ?_⟩
    rintro m σ H ⟨ρ, S, A, a, h⟩
    cases m with
    | zero => exact h.elim
    | succ m =>
      have h : holds g ρ E ((ba S A).bind fun k A1 => if k = true then (sa S A1).bind (fun f A2 => match f with
        | .nx S2 => mWhile m ba sa S2 A2
        | .rt w => .ok (.rt w) A2) else .ok (.nx S) A1) (KS D) := h
      refine bindB a h fun ρ1 b A1 H1 e1 a1 h1 => ?_
      cases b with
      | false => exact holds.ok (a := Fl.nx S) h1 a1.m σ a1.s
      | true =>
        rw [if_pos rfl] at h1 ⊢
        refine ⟨fun σ' H' => rS g E (mWhile m ba sa) D σ' H', fun σ' H' q => ⟨m, Nat.lt_succ_self m, q⟩, ?_⟩
        exact bindS a1 h1 (fun ρ2 S2 A2 σ2 H2 e2 a2 h2 => at_rS a2 h2) fun ρ2 w A2 x H2 e2 m2 r2 h2 => holds.ok (a := Fl.rt w) h2 m2 x r2

/-! ### what a loop walks -/
inductive Src where
  | sl (k : Nat) | st (k : Nat) | el (k : Nat) | et (k : Nat) | rg (lo : Int) (n : Nat)
/-- bad; the end; an item -/
inductive Nxt where
  | bad | stop | item (w : W) (A : Hs)
def nxtOf (A : Hs) (xs : List W) (i : Nat) : Nxt := match xs[i]? with
  | some w => .item w A
  | none => .stop
def nxtEn (A : Hs) (xs : List W) (i : Nat) : Nxt := match xs[i]? with
  | some w => .item (.ref A.length) (A ++ [.tup [.int (i : Nat), w]])
  | none => .stop
def Src.nxt (s : Src) (i : Nat) (A : Hs) : Nxt := match s with
  | .sl k => match A[k]? with
    | some (.lst xs) => nxtOf A xs i
    | _ => .bad
  | .st k => match A[k]? with
    | some (.tup xs) => nxtOf A xs i
    | _ => .bad
  | .el k => match A[k]? with
    | some (.lst xs) => nxtEn A xs i
    | _ => .bad
  | .et k => match A[k]? with
    | some (.tup xs) => nxtEn A xs i
    | _ => .bad
  | .rg lo n => if i < n then .item (.int (lo + (i : Nat))) A else .stop
/-- the iterator J does what the source says -/
structure Walk (g : Gr) (ρ : List Addr) (s : Src) (J : It) : Prop where
  stop : ∀ ρ' A H i, Ext ρ ρ' → M g ρ' A H → s.nxt i A = .stop → J.stop i H
  item : ∀ ρ' A H i w A', Ext ρ ρ' → M g ρ' A H → s.nxt i A = .item w A' → J.go i H ∧ ∀ x H', J.yld i H x H' → ∃ ρ'', Ext ρ' ρ'' ∧ M g ρ'' A' H' ∧ RV ρ'' w x
theorem Walk.ext {s : Src} {J : It} {ρ' : List Addr} (x : Ext ρ ρ') (h : Walk g ρ s J) : Walk g ρ' s J :=
  ⟨fun ρ'' A H i e => h.stop ρ'' A H i (x.trans e), fun ρ'' A H i w A' e => h.item ρ'' A H i w A' (x.trans e)⟩
theorem walk_sl {K : PySem.W.Frag} {k : Nat} {a : Addr} (ea : ρ[k]? = some a) : Walk g ρ (.sl k) (Itl K a) where
  stop := fun ρ' A H i x m h => by
    have h : (match A[k]? with | some (.lst xs) => nxtOf A xs i | _ => .bad) = Nxt.stop := h
    split at h
    · rename_i xs hk
      obtain ⟨us, ru, hu⟩ := m.at_ hk (x.get ea)
      unfold nxtOf at h
      split at h
      · cases h
      · rename_i hn
        exact ⟨us, .of hu, by rw [← Paired.len2 ru]; exact List.getElem?_eq_none_iff.mp hn⟩
    · cases h
  item := fun ρ' A H i w A' x m h => by
    have h : (match A[k]? with | some (.lst xs) => nxtOf A xs i | _ => .bad) = Nxt.item w A' := h
    split at h
    · rename_i xs hk
      obtain ⟨us, ru, hu⟩ := m.at_ hk (x.get ea)
      unfold nxtOf at h
      split at h
      · rename_i w' hw
        cases h
        obtain ⟨y, hy, ry⟩ := Paired.get2 ru hw
        refine ⟨⟨us, y, .of hu, hy⟩, fun z H' hz => ?_⟩
        obtain ⟨rfl, hz⟩ := hz
        have e := hz us (.of hu)
        rw [hy] at e; cases e
        exact ⟨ρ', Ext.refl _, m, ry⟩
      · cases h
    · cases h
theorem walk_st {K : PySem.W.Frag} {k : Nat} {a : Addr} (ea : ρ[k]? = some a) : Walk g ρ (.st k) (Itt K a) where
  stop := fun ρ' A H i x m h => by
    have h : (match A[k]? with | some (.tup xs) => nxtOf A xs i | _ => .bad) = Nxt.stop := h
    split at h
    · rename_i xs hk
      obtain ⟨us, ru, hu⟩ := m.at_ hk (x.get ea)
      unfold nxtOf at h
      split at h
      · cases h
      · rename_i hn
        exact ⟨us, .of hu, by rw [← Paired.len2 ru]; exact List.getElem?_eq_none_iff.mp hn⟩
    · cases h
  item := fun ρ' A H i w A' x m h => by
    have h : (match A[k]? with | some (.tup xs) => nxtOf A xs i | _ => .bad) = Nxt.item w A' := h
    split at h
    · rename_i xs hk
      obtain ⟨us, ru, hu⟩ := m.at_ hk (x.get ea)
      unfold nxtOf at h
      split at h
      · rename_i w' hw
        cases h
        obtain ⟨y, hy, ry⟩ := Paired.get2 ru hw
        refine ⟨⟨us, y, .of hu, hy⟩, fun z H' hz => ?_⟩
        obtain ⟨rfl, hz⟩ := hz
        have e := hz us (.of hu)
        rw [hy] at e; cases e
        exact ⟨ρ', Ext.refl _, m, ry⟩
      · cases h
    · cases h
theorem pair_new {i : Nat} {w : W} {y : V} {p : Addr} (m : M g ρ A H) (r : RV ρ w y) (hp : H p = none) : ∃ ρ'', Ext ρ ρ'' ∧ M g ρ'' (A ++ [.tup [.int (i : Nat), w]]) (upd H p (.tup [.int (i : Nat), y])) ∧ RV ρ'' (.ref A.length) (.ref p) := by
  refine ⟨ρ ++ [p], ⟨[p], rfl⟩, m.push hp rfl ⟨_, .cons rfl (.cons (r.ext ⟨[p], rfl⟩) .nil), upd_same⟩, p, rfl, ?_⟩
  rw [← m.len]; simp
theorem walk_el {K : PySem.W.Frag} {k : Nat} {a : Addr} (ea : ρ[k]? = some a) : Walk g ρ (.el k) (Ite K a) where
  stop := fun ρ' A H i x m h => by
    have h : (match A[k]? with | some (.lst xs) => nxtEn A xs i | _ => .bad) = Nxt.stop := h
    split at h
    · rename_i xs hk
      obtain ⟨us, ru, hu⟩ := m.at_ hk (x.get ea)
      unfold nxtEn at h
      split at h
      · cases h
      · rename_i hn
        exact ⟨us, .of hu, by rw [← Paired.len2 ru]; exact List.getElem?_eq_none_iff.mp hn⟩
    · cases h
  item := fun ρ' A H i w A' x m h => by
    have h : (match A[k]? with | some (.lst xs) => nxtEn A xs i | _ => .bad) = Nxt.item w A' := h
    split at h
    · rename_i xs hk
      obtain ⟨us, ru, hu⟩ := m.at_ hk (x.get ea)
      unfold nxtEn at h
      split at h
      · rename_i w' hw
        cases h
        obtain ⟨y, hy, ry⟩ := Paired.get2 ru hw
        refine ⟨⟨us, y, .of hu, hy⟩, fun z H' hz => ?_⟩
        obtain ⟨p, y', rfl, hp, rfl, hz⟩ := hz
        have e := hz us (.of hu)
        rw [hy] at e; cases e
        exact pair_new m ry hp
      · cases h
    · cases h
theorem walk_et {K : PySem.W.Frag} {k : Nat} {a : Addr} (ea : ρ[k]? = some a) : Walk g ρ (.et k) (Itet K a) where
  stop := fun ρ' A H i x m h => by
    have h : (match A[k]? with | some (.tup xs) => nxtEn A xs i | _ => .bad) = Nxt.stop := h
    split at h
    · rename_i xs hk
      obtain ⟨us, ru, hu⟩ := m.at_ hk (x.get ea)
      unfold nxtEn at h
      split at h
      · cases h
      · rename_i hn
        exact ⟨us, .of hu, by rw [← Paired.len2 ru]; exact List.getElem?_eq_none_iff.mp hn⟩
    · cases h
  item := fun ρ' A H i w A' x m h => by
    have h : (match A[k]? with | some (.tup xs) => nxtEn A xs i | _ => .bad) = Nxt.item w A' := h
    split at h
    · rename_i xs hk
      obtain ⟨us, ru, hu⟩ := m.at_ hk (x.get ea)
      unfold nxtEn at h
      split at h
      · rename_i w' hw
        cases h
        obtain ⟨y, hy, ry⟩ := Paired.get2 ru hw
        refine ⟨⟨us, y, .of hu, hy⟩, fun z H' hz => ?_⟩
        obtain ⟨p, y', rfl, hp, rfl, hz⟩ := hz
        have e := hz us (.of hu)
        rw [hy] at e; cases e
        exact pair_new m ry hp
      · cases h
    · cases h
theorem walk_rg {lo : Int} {n : Nat} : Walk g ρ (.rg lo n) (Itr lo n) where
  stop := fun ρ' A H i x m h => by
    have h : (if i < n then Nxt.item (.int (lo + (i : Nat))) A else .stop) = .stop := h
    split at h
    · cases h
    · rename_i hn; exact Nat.le_of_not_lt hn
  item := fun ρ' A H i w A' x m h => by
    have h : (if i < n then Nxt.item (.int (lo + (i : Nat))) A else .stop) = .item w A' := h
    split at h
    · rename_i hn
      cases h
      refine ⟨hn, fun z H' hz => ?_⟩
      obtain ⟨rfl, rfl⟩ := hz
      exact ⟨ρ', Ext.refl _, m, rfl⟩
    · cases h
abbrev SrcT := Slots → Hs → Res Src
def rI (g : Gr) (E : XK) (m : SrcT) : TI := fun σ H R => ∃ ρ S A, At g ρ S A σ H ∧ holds g ρ E (m S A) fun ρ' s _ H' => ∀ J, (∀ g', Walk g' ρ' s J) → R J H'
theorem PI.imp {tg iter : Expr} {t t' : TI} (h : PI X tg iter t) (w : ∀ σ H R, t' σ H R → t σ H R) : PI X tg iter t' := ⟨fun pins s σ H R I q => h.run pins s σ H R I (w σ H R q)⟩
def mWL (m : ET) : SrcT := fun S A => (m S A).bind fun w A1 => match w with
  | .ref k => match A1[k]? with
    | some (.lst _) => .ok (.sl k) A1
    | _ => .bad
  | _ => .bad
def mWT (m : ET) : SrcT := fun S A => (m S A).bind fun w A1 => match w with
  | .ref k => match A1[k]? with
    | some (.tup _) => .ok (.st k) A1
    | _ => .bad
  | _ => .bad
theorem wl_of {K : PySem.W.Frag} {R : It → Hp → Prop} (h : rI g E (mWL ma) σ H R) : iList K (rE g E ma) σ H R := by
  obtain ⟨ρ, S, A, a, h⟩ := h
  refine bindE a h fun ρ1 w A1 x H1 e1 a1 r1 h1 => ?_
  cases w with
  | ref k =>
    obtain ⟨p, rfl, ep⟩ := r1
    have h1 : holds g ρ1 E (match A1[k]? with | some (.lst _) => Res.ok (Src.sl k) A1 | _ => .bad) (fun ρ' s _ H' => ∀ J, (∀ g', Walk g' ρ' s J) → R J H') := h1
    split at h1
    · rename_i xs hk
      obtain ⟨us, ru, hu⟩ := a1.m.at_ hk ep
      exact ⟨p, rfl, ⟨us, .of hu⟩, holds.ok (a := Src.sl k) h1 a1.m _ (fun _ => walk_sl ep)⟩
    · exact h1.elim
  | _ => exact h1.elim
theorem d_wl {tg : Expr} (h : PE X e (rE g E ma)) : PI X tg e (rI g E (mWL ma)) := PI.imp (pi_list h) fun σ H R h => wl_of h
theorem d_wt {tg : Expr} (h : PE X e (rE g E ma)) : PI X tg e (rI g E (mWT ma)) := PI.imp (pi_tup h) fun σ H R ⟨ρ, S, A, a, h⟩ => bindE a h fun ρ1 w A1 x H1 e1 a1 r1 h1 => by
  cases w with
  | ref k =>
    obtain ⟨p, rfl, ep⟩ := r1
    have h1 : holds g ρ1 E (match A1[k]? with | some (.tup _) => Res.ok (Src.st k) A1 | _ => .bad) (fun ρ' s _ H' => ∀ J, (∀ g', Walk g' ρ' s J) → R J H') := h1
    split at h1
    · rename_i xs hk
      obtain ⟨us, ru, hu⟩ := a1.m.at_ hk ep
      exact ⟨p, rfl, ⟨us, .of hu⟩, holds.ok (a := Src.st k) h1 a1.m _ (fun _ => walk_st ep)⟩
    · exact h1.elim
  | _ => exact h1.elim
def mWEL (m : LT) : SrcT := fun S A => (m S A).bind fun ws A1 => match ws with
  | [.ref k] => match A1[k]? with
    | some (.lst _) => .ok (.el k) A1
    | _ => .bad
  | _ => .bad
def mWET (m : LT) : SrcT := fun S A => (m S A).bind fun ws A1 => match ws with
  | [.ref k] => match A1[k]? with
    | some (.tup _) => .ok (.et k) A1
    | _ => .bad
  | _ => .bad
def mWR1 (m : LT) : SrcT := fun S A => (m S A).bind fun ws A1 => match ws with
  | [.int j] => if (decide (-(2 ^ 62) ≤ j) && decide (j < 2 ^ 62)) = true then .ok (.rg 0 j.toNat) A1 else .bad
  | _ => .bad
theorem d_wel {tpos p' : Pos} {elts : List Expr} {kk : Nat} (hg : Gl X "enumerate") (hm : X.mg "enumerate" = none) (ha : PA X [e] (rL g E ml)) (hs : starEach [e] X.env = [(false, eval e X.env)] := by rfl) : PI X (.Tuple elts kk tpos) (.Call (.Name "enumerate" p') [e] [] pos) (rI g E (mWEL ml)) :=
  PI.imp (pi_enum hg hm ha hs) fun σ H R ⟨ρ, S, A, a, h⟩ => bindL a h fun ρ1 ws A1 xs H1 e1 a1 r1 h1 => by
    split at h1
    · obtain ⟨v, rfl, p, rfl, ep⟩ := RVs.one r1
      split at h1
      · rename_i ys hk
        obtain ⟨us, ru, hu⟩ := a1.m.at_ hk ep
        exact ⟨p, us, rfl, .of hu, holds.ok (a := Src.el _) h1 a1.m _ (fun _ => walk_el ep)⟩
      · exact h1.elim
    · exact h1.elim
theorem d_wet {tpos p' : Pos} {elts : List Expr} {kk : Nat} (hg : Gl X "enumerate") (hm : X.mg "enumerate" = none) (ha : PA X [e] (rL g E ml)) (hs : starEach [e] X.env = [(false, eval e X.env)] := by rfl) : PI X (.Tuple elts kk tpos) (.Call (.Name "enumerate" p') [e] [] pos) (rI g E (mWET ml)) :=
  PI.imp (pi_enumT hg hm ha hs) fun σ H R ⟨ρ, S, A, a, h⟩ => bindL a h fun ρ1 ws A1 xs H1 e1 a1 r1 h1 => by
    split at h1
    · obtain ⟨v, rfl, p, rfl, ep⟩ := RVs.one r1
      split at h1
      · rename_i ys hk
        obtain ⟨us, ru, hu⟩ := a1.m.at_ hk ep
        exact ⟨p, us, rfl, .of hu, holds.ok (a := Src.et _) h1 a1.m _ (fun _ => walk_et ep)⟩
      · exact h1.elim
    · exact h1.elim
theorem d_wr1 {tg : Expr} {p' : Pos} (hg : Gl X "range") (hm : X.mg "range" = none) (ha : PA X [e] (rL g E ml)) (hs : starEach [e] X.env = [(false, eval e X.env)] := by rfl) : PI X tg (.Call (.Name "range" p') [e] [] pos) (rI g E (mWR1 ml)) :=
  PI.imp (pi_range1 hg hm ha hs) fun σ H R ⟨ρ, S, A, a, h⟩ => bindL a h fun ρ1 ws A1 xs H1 e1 a1 r1 h1 => by
    split at h1
    · obtain ⟨v, rfl, rfl⟩ := RVs.one r1
      split at h1
      · rename_i j hj
        simp only [Bool.and_eq_true, decide_eq_true_eq] at hj
        exact ⟨j, rfl, hj.1, hj.2, holds.ok (a := Src.rg 0 _) h1 a1.m _ (fun _ => walk_rg)⟩
      · exact h1.elim
    · exact h1.elim

/-! ### for -/
abbrev Lp (α : Type) := Nat → Slots → Hs → Res α
def forStep (s : Src) (t : Tg) (b : ST) (ih : Lp Fl) : Lp Fl := fun i S A => match s.nxt i A with
  | .bad => .bad
  | .stop => .ok (.nx S) A
  | .item w A1 => match t.put w S A1 with
    | none => .bad
    | some S1 => (b S1 A1).bind fun f A2 => match f with
      | .nx S2 => ih (i + 1) S2 A2
      | .rt w => .ok (.rt w) A2
def mFor (fuel : Nat) (m : SrcT) (t : Tg) (b : ST) : ST := fun S A => (m S A).bind fun s A1 => loopN (fun _ _ _ => .bad) (forStep s t b) fuel 0 S A1
theorem for_of {K : PySem.W.Frag} {fuel : Nat} {t : Tg} {mi : SrcT} {D : Ends} (h : rS g E (mFor fuel mi t sa) D σ H) : tFor (rI g E mi) (gT K t) (rS g E sa) D σ H := by
    obtain ⟨ρ, S, A, a, h⟩ := h
    refine ⟨ρ, S, A, a, (holds.bind h).imp fun ρ1 s A1 H1 e1 m1 h1 J hJ => ?_⟩
    refine ⟨fun i n σ H => ∃ ρ2 S A, Ext ρ1 ρ2 ∧ At g ρ2 S A σ H ∧ holds g ρ2 E (loopN (fun _ _ _ => .bad) (forStep s t sa) n i S A) (KS D), ⟨fuel, ρ1, S, A1, Ext.refl _, a.mk' e1 m1, h1⟩, ?_⟩
    rintro i n σ H ⟨ρ2, S, A, e2, a2, h2⟩
    cases n with
    | zero => exact h2.elim
    | succ n =>
      have h2 : holds g ρ2 E (forStep s t sa (loopN (fun _ _ _ => .bad) (forStep s t sa) n) i S A) (KS D) := h2
      unfold forStep at h2
      split at h2
      · exact h2.elim
      · rename_i hx
        exact .inl ⟨(hJ g).stop ρ2 A H i e2 a2.m hx, holds.ok (a := Fl.nx S) h2 a2.m σ a2.s⟩
      · rename_i w A3 hx
        obtain ⟨go, yl⟩ := (hJ g).item ρ2 A H i w A3 e2 a2.m hx
        refine .inr ⟨go, fun σ' H' => ∃ ρ2 S A, Ext ρ1 ρ2 ∧ At g ρ2 S A σ' H' ∧ holds g ρ2 E (loopN (fun _ _ _ => .bad) (forStep s t sa) n (i + 1) S A) (KS D), fun σ' H' q => ⟨n, Nat.lt_succ_self n, q⟩, fun x H' hy => ?_⟩
        obtain ⟨ρ3, e3, m3, r3⟩ := yl x H' hy
        split at h2
        · exact h2.elim
        · rename_i S1 hS
          obtain ⟨σ1, s1, k1, _⟩ := put_of (K := K) m3 (a2.s.ext e3) r3 hS
          refine k1 _ (bindS (E := E) ⟨s1, m3⟩ (h2.ext e3) (fun ρ4 S4 A4 σ4 H4 e4 a4 h4 => ⟨ρ4, S4, A4, (e2.trans e3).trans e4, a4, h4⟩) fun ρ4 w A4 x H4 e4 m4 r4 h4 => holds.ok (a := Fl.rt w) h4 m4 x r4)
theorem d_sfor {fuel : Nat} {tg : Expr} {t : Tg} {mi : SrcT} (hp : PassesOwn (model X.prog X.w) X.A X.env X.xe) (hc : X.calm = true) (hi : PI X tg e (rI g E mi)) (hg : PG X tg (gT X.K t)) (hb : PSs X p (rS g E sa))
    (hs : ∀ x, foldedSetIterable e X.env x = pure x := by intro _; rfl) : PS X (.For tg e p [] pos) (rS g E (mFor fuel mi t sa)) :=
  PS.imp (ps_for hp hc hi hg hb hs) fun D σ H h => for_of h
end
end K33
namespace K33
open PySem PySem.Spec PyProof.Rows L2

/-! ## comprehensions, generator expressions -/
/-- no exception is wanted -/
def noE : XK := fun _ _ _ => False
def noX {α : Type} (r : Res α) : Res α := match r with
  | .exc _ _ => .bad
  | r => r
def wipeW (S : Slots) : List Nat → Slots
  | [] => S
  | v :: vs => (wipeW S vs).set v none
theorem wipe_in {σ : L2.St} {i : Nat} : ∀ {vs : List Nat}, i ∈ vs → (wipe σ vs)[i]? = (σ[i]?).map fun _ => none
  | v :: vs, h => by
    have len : ∀ l : L2.St, ((l.set i none)[i]?) = (l[i]?).map fun _ => none := fun l => by
      by_cases hl : i < l.length
      · rw [List.getElem?_set_self hl, List.getElem?_eq_getElem hl]; rfl
      · rw [List.getElem?_eq_none (by simpa using hl), List.getElem?_eq_none (by simpa using hl)]; rfl
    unfold wipe
    by_cases hv : v = i
    · subst hv
      rw [len]
      by_cases hm : v ∈ vs
      · rw [wipe_in hm, Option.map_map]; rfl
      · rw [wipe_out hm]
    · rw [List.getElem?_set_ne hv]
      rcases List.mem_cons.mp h with z | z
      · exact absurd z.symm hv
      · exact wipe_in z
theorem wipe_wipe {σ : L2.St} {vs : List Nat} : wipe (wipe σ vs) vs = wipe σ vs := by
  refine List.ext_getElem? fun i => ?_
  by_cases h : i ∈ vs
  · rw [wipe_in h, wipe_in h, Option.map_map]; rfl
  · rw [wipe_out h]
section
variable {X : Cx} {g : Gr} {E : XK} {ρ : List Addr} {S : Slots} {A : Hs} {σ : L2.St} {H : Hp} {α β : Type}
theorem holds.nox {r : Res α} {k : α → Hs → Res β} {K : List Addr → β → Hs → Hp → Prop} (h : holds g ρ E ((noX r).bind k) K) : holds g ρ noE r fun ρ' a A' _ => holds g ρ' E (k a A') K := by
  cases r with
  | ok a A => exact fun ρ' H' e m => h.ext e
  | exc c A => exact h.elim
  | bad => exact h.elim
theorem SR.wipe (s : SR ρ S σ) : ∀ vs : List Nat, SR ρ (wipeW S vs) (wipe σ vs)
  | [] => s
  | v :: vs => Paired.set2 (F := RS1 ρ) (x := none) (y := none) trivial v (SR.wipe s vs)
theorem bindEX {ma : ET} {k : W → Hs → Res β} {K : List Addr → β → Hs → Hp → Prop} {Q : VK} (a : At g ρ S A σ H) (h : holds g ρ E ((noX (ma S A)).bind k) K) (c : ∀ ρ1 w A1 x H1, Ext ρ ρ1 → At g ρ1 S A1 σ H1 → RV ρ1 w x → holds g ρ1 E (k w A1) K → Q x H1) : rE g noE ma σ H Q :=
  ⟨ρ, S, A, a, (holds.nox h).imp fun ρ1 w A1 H1 e m hk v r => c ρ1 w A1 v H1 e (a.mk' e m) r hk⟩
theorem bindBX {ma : BT} {k : Bool → Hs → Res β} {K : List Addr → β → Hs → Hp → Prop} {Q : Bool → Hp → Prop} (a : At g ρ S A σ H) (h : holds g ρ E ((noX (ma S A)).bind k) K) (c : ∀ ρ1 b A1 H1, Ext ρ ρ1 → At g ρ1 S A1 σ H1 → holds g ρ1 E (k b A1) K → Q b H1) : rB g noE ma σ H Q :=
  ⟨ρ, S, A, a, (holds.nox h).imp fun ρ1 b A1 H1 e m hk => c ρ1 b A1 H1 e (a.mk' e m) hk⟩
theorem bindIX {ma : SrcT} {k : Src → Hs → Res β} {K : List Addr → β → Hs → Hp → Prop} {R : It → Hp → Prop} (a : At g ρ S A σ H) (h : holds g ρ E ((noX (ma S A)).bind k) K) (c : ∀ ρ1 s A1 J H1, Ext ρ ρ1 → At g ρ1 S A1 σ H1 → Walk g ρ1 s J → holds g ρ1 E (k s A1) K → R J H1) : rI g noE ma σ H R :=
  ⟨ρ, S, A, a, (holds.nox h).imp fun ρ1 s A1 H1 e m hk J hJ => c ρ1 s A1 J H1 e (a.mk' e m) (hJ g) hk⟩
/-! a clause's tests -/
def mYes : BT := fun _ A => .ok true A
theorem d_ts0 : PTs X [] (rB g E mYes) := PTs.imp pts_nil fun σ H Q ⟨ρ, S, A, a, h⟩ => holds.ok (a := true) h a.m
theorem d_ts1 {c : Expr} {b : BT} (h : PT X c (rB g E b)) : PTs X [c] (rB g E b) := pts_one h

abbrev Lc := Nat → Hs → Res Unit
def lcStep (s : Src) (t : Tg) (S0 : Slots) (bt : BT) (me : ET) (k : Nat) (ih : Lc) : Lc := fun i A => match s.nxt i A with
  | .bad => .bad
  | .stop => .ok () A
  | .item w A1 => match t.put w S0 A1 with
    | none => .bad
    | some S1 => (noX (bt S1 A1)).bind fun b A2 => if b = true then (noX (me S1 A2)).bind (fun w A3 => match A3[k]? with
        | some (.lst acc) => if sz (acc.length + 1) then ih (i + 1) (A3.set k (.lst (acc ++ [w]))) else .bad
        | _ => .bad) else ih (i + 1) A2
def mLc (fuel : Nat) (mi : SrcT) (t : Tg) (vs : List Nat) (bt : BT) (me : ET) : ET := fun S A => (mi S A).bind fun s A1 =>
  (loopN (fun _ _ => .bad) (lcStep s t (wipeW S vs) bt me A1.length) fuel 0 (A1 ++ [.lst []])).bind fun _ A2 => .ok (.ref A1.length) A2
theorem M.app (m : M g ρ A H) {k : Nat} {D : Addr} {acc : List W} {w : W} {v : V} (e : ρ[k]? = some D) (hk : A[k]? = some (.lst acc)) (r : RV ρ w v) : ∃ vs, H D = some (.lst vs) ∧ acc.length = vs.length ∧ M g ρ (A.set k (.lst (acc ++ [w]))) (upd H D (.lst (vs ++ [v]))) := by
  obtain ⟨vs, rv, hv⟩ := m.at_ hk e
  exact ⟨vs, hv, Paired.len2 rv, m.put e hk rfl rfl ⟨_, Paired.app2 rv (.cons r .nil), upd_same⟩⟩
theorem lc_of {K : PySem.W.Frag} {fuel : Nat} {mi : SrcT} {t : Tg} {vs : List Nat} {bt : BT} {me : ET} {Q : VK} (hv : ∀ i ∈ t.ix, i ∈ vs) (h : rE g E (mLc fuel mi t vs bt me) σ H Q) : tLc (rI g E mi) (gT K t) (rB g noE bt) (rE g noE me) vs σ H Q := by
  obtain ⟨ρ, S, A, a, h⟩ := h
  refine ⟨ρ, S, A, a, (holds.bind h).imp fun ρ1 s A1 H1 e1 m1 h1 J hJ D hD => ?_⟩
  have m2 := m1.push (o := .lst []) (ao := .lst []) hD rfl ⟨_, .nil, upd_same⟩
  have eD : (ρ1 ++ [D])[A1.length]? = some D := by rw [← m1.len]; simp
  have h2 := (holds.bind h1).ext (⟨[D], rfl⟩ : Ext ρ1 (ρ1 ++ [D]))
  refine ⟨fun i n H => ∃ ρ3 A3, Ext (ρ1 ++ [D]) ρ3 ∧ M g ρ3 A3 H ∧ holds g ρ3 E (loopN (fun _ _ => .bad) (lcStep s t (wipeW S vs) bt me A1.length) n i A3) (fun ρ' _ A' _ => holds g ρ' E (.ok (W.ref A1.length) A') (KE Q)), ⟨fuel, _, _, Ext.refl _, m2, h2⟩, ?_⟩
  rintro i n H ⟨ρ3, A3, e3, m3, h3⟩
  cases n with
  | zero => exact h3.elim
  | succ n =>
    have h3 : holds g ρ3 E (lcStep s t (wipeW S vs) bt me A1.length (loopN (fun _ _ => .bad) (lcStep s t (wipeW S vs) bt me A1.length) n) i A3) _ := h3
    have w3 := ((hJ g).ext ⟨[D], rfl⟩).ext e3
    unfold lcStep at h3
    split at h3
    · exact h3.elim
    · rename_i hx
      exact .inl ⟨w3.stop ρ3 A3 H i (Ext.refl _) m3 hx, holds.ok (a := W.ref A1.length) (holds.ok (a := ()) h3 m3) m3 _ ⟨D, rfl, e3.get eD⟩⟩
    · rename_i w A4 hx
      obtain ⟨go, yl⟩ := w3.item ρ3 A3 H i w A4 (Ext.refl _) m3 hx
      refine .inr ⟨go, fun H' => ∃ ρ3 A3, Ext (ρ1 ++ [D]) ρ3 ∧ M g ρ3 A3 H' ∧ holds g ρ3 E (loopN (fun _ _ => .bad) (lcStep s t (wipeW S vs) bt me A1.length) n (i + 1) A3) (fun ρ' _ A' _ => holds g ρ' E (.ok (W.ref A1.length) A') (KE Q)), fun H' q => ⟨n, Nat.lt_succ_self n, q⟩, fun x H' hy => ?_⟩
      obtain ⟨ρ4, e4, m4, r4⟩ := yl x H' hy
      split at h3
      · exact h3.elim
      · rename_i S1 hS
        have sw : SR ρ4 (wipeW S vs) (wipe σ vs) := ((((a.s.ext e1).ext ⟨[D], rfl⟩).ext e3).ext e4).wipe vs
        obtain ⟨σ1, s1, k1, k2⟩ := put_of (K := K) m4 sw r4 hS
        refine k1 _ ⟨by rw [k2 vs hv]; have z : wipe (wipe σ vs) vs = wipe σ vs := wipe_wipe; exact z, ?_⟩
        refine bindBX (E := E) ⟨s1, m4⟩ (h3.ext e4) fun ρ5 b A5 H5 e5 a5 h5 => ?_
        cases b with
        | false => exact ⟨ρ5, A5, (e3.trans e4).trans e5, a5.m, h5⟩
        | true =>
          rw [if_pos rfl] at h5 ⊢
          refine bindEX (E := E) a5 h5 fun ρ6 w A6 y H6 e6 a6 r6 h6 => ?_
          split at h6
          · rename_i acc hk
            split at h6
            · rename_i hs
              have eD' := (((e3.trans e4).trans e5).trans e6).get eD
              obtain ⟨us, hu, hl, m7⟩ := a6.m.app eD' hk r6
              exact ⟨us, hu, by rw [← hl]; exact sz_ok hs, ρ6, _, ((e3.trans e4).trans e5).trans e6, m7, h6⟩
            · exact h6.elim
          · exact h6.elim

/-- two clauses -/
def lcIn (s : Src) (t : Tg) (S0 : Slots) (bt : BT) (me : ET) (k : Nat) (fin : Hs → Res Unit) (ih : Lc) : Lc := fun i A => match s.nxt i A with
  | .bad => .bad
  | .stop => fin A
  | .item w A1 => match t.put w S0 A1 with
    | none => .bad
    | some S1 => (noX (bt S1 A1)).bind fun b A2 => if b = true then (noX (me S1 A2)).bind (fun w A3 => match A3[k]? with
        | some (.lst acc) => if sz (acc.length + 1) then ih (i + 1) (A3.set k (.lst (acc ++ [w]))) else .bad
        | _ => .bad) else ih (i + 1) A2
def lcOut (fuel : Nat) (s : Src) (t : Tg) (S0 : Slots) (bt : BT) (mi1 : SrcT) (t1 : Tg) (vs1 : List Nat) (bt1 : BT) (me : ET) (k : Nat) (ih : Lc) : Lc := fun i A => match s.nxt i A with
  | .bad => .bad
  | .stop => .ok () A
  | .item w A1 => match t.put w S0 A1 with
    | none => .bad
    | some S1 => (noX (bt S1 A1)).bind fun b A2 => if b = true then (noX (mi1 S1 A2)).bind (fun s1 A3 => loopN (fun _ _ => .bad) (lcIn s1 t1 (wipeW S1 vs1) bt1 me k (ih (i + 1))) fuel 0 A3) else ih (i + 1) A2
def mLc2 (fuel : Nat) (mi : SrcT) (t : Tg) (vs : List Nat) (bt : BT) (mi1 : SrcT) (t1 : Tg) (vs1 : List Nat) (bt1 : BT) (me : ET) : ET := fun S A => (mi S A).bind fun s A1 =>
  (loopN (fun _ _ => .bad) (lcOut fuel s t (wipeW S vs) bt mi1 t1 vs1 bt1 me A1.length) fuel 0 (A1 ++ [.lst []])).bind fun _ A2 => .ok (.ref A1.length) A2
theorem lc2_of {K : PySem.W.Frag} {fuel : Nat} {mi mi1 : SrcT} {t t1 : Tg} {vs vs1 : List Nat} {bt bt1 : BT} {me : ET} {Q : VK} (hv : ∀ i ∈ t.ix, i ∈ vs) (hv1 : ∀ i ∈ t1.ix, i ∈ vs1) (h : rE g E (mLc2 fuel mi t vs bt mi1 t1 vs1 bt1 me) σ H Q) :
    tLc2 (rI g E mi) (gT K t) (rB g noE bt) (rI g noE mi1) (gT K t1) (rB g noE bt1) (rE g noE me) vs vs1 σ H Q := by
  obtain ⟨ρ, S, A, a, h⟩ := h
  refine ⟨ρ, S, A, a, (holds.bind h).imp fun ρ1 s A1 H1 e1 m1 h1 J hJ D hD => ?_⟩
  have m2 := m1.push (o := .lst []) (ao := .lst []) hD rfl ⟨_, .nil, upd_same⟩
  have eD : (ρ1 ++ [D])[A1.length]? = some D := by rw [← m1.len]; simp
  have h2 := (holds.bind h1).ext (⟨[D], rfl⟩ : Ext ρ1 (ρ1 ++ [D]))
  refine ⟨fun i n H => ∃ ρ3 A3, Ext (ρ1 ++ [D]) ρ3 ∧ M g ρ3 A3 H ∧ holds g ρ3 E (loopN (fun _ _ => .bad) (lcOut fuel s t (wipeW S vs) bt mi1 t1 vs1 bt1 me A1.length) n i A3) (fun ρ' _ A' _ => holds g ρ' E (.ok (W.ref A1.length) A') (KE Q)), ⟨fuel, _, _, Ext.refl _, m2, h2⟩, ?_⟩
  rintro i n H ⟨ρ3, A3, e3, m3, h3⟩
  cases n with
  | zero => exact h3.elim
  | succ n =>
    have h3 : holds g ρ3 E (lcOut fuel s t (wipeW S vs) bt mi1 t1 vs1 bt1 me A1.length (loopN (fun _ _ => .bad) (lcOut fuel s t (wipeW S vs) bt mi1 t1 vs1 bt1 me A1.length) n) i A3) _ := h3
    generalize hih : loopN (fun _ _ => .bad) (lcOut fuel s t (wipeW S vs) bt mi1 t1 vs1 bt1 me A1.length) n = ih at h3
    have w3 := ((hJ g).ext ⟨[D], rfl⟩).ext e3
    unfold lcOut at h3
    split at h3
    · exact h3.elim
    · rename_i hx
      exact .inl ⟨w3.stop ρ3 A3 H i (Ext.refl _) m3 hx, holds.ok (a := W.ref A1.length) (holds.ok (a := ()) h3 m3) m3 _ ⟨D, rfl, e3.get eD⟩⟩
    · rename_i w A4 hx
      obtain ⟨go, yl⟩ := w3.item ρ3 A3 H i w A4 (Ext.refl _) m3 hx
      refine .inr ⟨go, fun H' => ∃ ρ3 A3, Ext (ρ1 ++ [D]) ρ3 ∧ M g ρ3 A3 H' ∧ holds g ρ3 E (ih (i + 1) A3) (fun ρ' _ A' _ => holds g ρ' E (.ok (W.ref A1.length) A') (KE Q)), fun H' q => ⟨n, Nat.lt_succ_self n, by subst hih; exact q⟩, fun x H' hy => ?_⟩
      obtain ⟨ρ4, e4, m4, r4⟩ := yl x H' hy
      split at h3
      · exact h3.elim
      · rename_i S1 hS
        have sw : SR ρ4 (wipeW S vs) (wipe σ vs) := ((((a.s.ext e1).ext ⟨[D], rfl⟩).ext e3).ext e4).wipe vs
        obtain ⟨σ1, s1, k1, k2⟩ := put_of (K := K) m4 sw r4 hS
        refine k1 _ ⟨(k2 vs hv).trans wipe_wipe, ?_⟩
        refine bindBX (E := E) ⟨s1, m4⟩ (h3.ext e4) fun ρ5 b A5 H5 e5 a5 h5 => ?_
        cases b with
        | false => exact ⟨ρ5, A5, (e3.trans e4).trans e5, a5.m, h5⟩
        | true =>
          rw [if_pos rfl] at h5 ⊢
          refine bindIX (E := E) a5 h5 fun ρ6 s6 A6 J6 H6 e6 a6 w6 h6 => ?_
          refine ⟨fun j k H => ∃ ρ7 A7, Ext ρ6 ρ7 ∧ M g ρ7 A7 H ∧ holds g ρ7 E (loopN (fun _ _ => .bad) (lcIn s6 t1 (wipeW S1 vs1) bt1 me A1.length (ih (i + 1))) k j A7) (fun ρ' _ A' _ => holds g ρ' E (.ok (W.ref A1.length) A') (KE Q)), ⟨fuel, ρ6, A6, Ext.refl _, a6.m, h6⟩, ?_⟩
          rintro j k H7 ⟨ρ7, A7, e7, m7, h7⟩
          have up := ((((e3.trans e4).trans e5).trans e6).trans e7)
          cases k with
          | zero => exact h7.elim
          | succ k =>
            have h7 : holds g ρ7 E (lcIn s6 t1 (wipeW S1 vs1) bt1 me A1.length (ih (i + 1)) (loopN (fun _ _ => .bad) (lcIn s6 t1 (wipeW S1 vs1) bt1 me A1.length (ih (i + 1))) k) j A7) _ := h7
            have w7 := w6.ext e7
            unfold lcIn at h7
            split at h7
            · exact h7.elim
            · rename_i hx7
              exact .inl ⟨w7.stop ρ7 A7 H7 j (Ext.refl _) m7 hx7, ρ7, A7, up, m7, h7⟩
            · rename_i w8 A8 hx8
              obtain ⟨go8, yl8⟩ := w7.item ρ7 A7 H7 j w8 A8 (Ext.refl _) m7 hx8
              refine .inr ⟨go8, fun H' => ∃ ρ7 A7, Ext ρ6 ρ7 ∧ M g ρ7 A7 H' ∧ holds g ρ7 E (loopN (fun _ _ => .bad) (lcIn s6 t1 (wipeW S1 vs1) bt1 me A1.length (ih (i + 1))) k (j + 1) A7) (fun ρ' _ A' _ => holds g ρ' E (.ok (W.ref A1.length) A') (KE Q)), fun H' q => ⟨k, Nat.lt_succ_self k, q⟩, fun x1 H' hy1 => ?_⟩
              obtain ⟨ρ9, e9, m9, r9⟩ := yl8 x1 H' hy1
              split at h7
              · exact h7.elim
              · rename_i S9 hS9
                have sw9 : SR ρ9 (wipeW S1 vs1) (wipe σ1 vs1) := ((((s1.ext e5).ext e6).ext e7).ext e9).wipe vs1
                obtain ⟨σ9, s9, k9, k9'⟩ := put_of (K := K) m9 sw9 r9 hS9
                refine k9 _ ⟨(k9' vs1 hv1).trans wipe_wipe, ?_⟩
                refine bindBX (E := E) ⟨s9, m9⟩ (h7.ext e9) fun ρ10 b A10 H10 e10 a10 h10 => ?_
                cases b with
                | false => exact ⟨ρ10, A10, (e7.trans e9).trans e10, a10.m, h10⟩
                | true =>
                  rw [if_pos rfl] at h10 ⊢
                  refine bindEX (E := E) a10 h10 fun ρ11 w A11 y H11 e11 a11 r11 h11 => ?_
                  split at h11
                  · rename_i acc hk
                    split at h11
                    · rename_i hs
                      obtain ⟨us, hu, hl, m12⟩ := a11.m.app (((up.trans e9).trans e10).trans e11 |>.get eD) hk r11
                      exact ⟨us, hu, by rw [← hl]; exact sz_ok hs, ρ11, _, ((e7.trans e9).trans e10).trans e11, m12, h11⟩
                    · exact h11.elim
                  · exact h11.elim
/-! generator expressions -/
abbrev Gl1 := Nat → Int → Hs → Res W
/-- what a builtin does with an item (yes: any, all), with the end -/
inductive Con where
  | any | all | sum
def Con.eat (c : Con) (n : Int) (w : W) (A : Hs) (ih : Int → Hs → Res W) : Res W := match c, w with
  | .any, .bl b => if b = true then .ok (.bl true) A else ih n A
  | .all, .bl b => if b = false then .ok (.bl false) A else ih n A
  | .sum, .int i => ih (n + i) A
  | _, _ => .bad
def Con.fin (c : Con) (n : Int) : W := match c with
  | .any => .bl false
  | .all => .bl true
  | .sum => .int n
def gx1Step (c : Con) (s : Src) (t : Tg) (S0 : Slots) (bt : BT) (me : ET) (ih : Gl1) : Gl1 := fun i n A => match s.nxt i A with
  | .bad => .bad
  | .stop => .ok (c.fin n) A
  | .item w A1 => match t.put w S0 A1 with
    | none => .bad
    | some S1 => (noX (bt S1 A1)).bind fun b A2 => if b = true then (noX (me S1 A2)).bind (fun w A3 => c.eat n w A3 (ih (i + 1))) else ih (i + 1) n A2
def mGx1 (c : Con) (fuel : Nat) (mi : SrcT) (t : Tg) (vs : List Nat) (bt : BT) (me : ET) : ET := fun S A => (mi S A).bind fun s A1 => loopN (fun _ _ _ => .bad) (gx1Step c s t (wipeW S vs) bt me) fuel 0 0 A1
def Con.yd (c : Con) (Q : VK) : Eat := match c with
  | .any => eatB true fun H' => Q (.bl true) H'
  | .all => eatB false fun H' => Q (.bl false) H'
  | .sum => eatS
def Con.en (c : Con) (Q : VK) : Int → Hp → Prop := match c with
  | .any => fun _ H' => Q (.bl false) H'
  | .all => fun _ H' => Q (.bl true) H'
  | .sum => fun n H' => Q (.int n) H'
theorem fin_of {c : Con} {n : Int} {Q : VK} (m : M g ρ A H) (h : holds g ρ E (.ok (c.fin n) A) (KE Q)) : c.en Q n H := by
  cases c with
  | any => exact holds.ok h m _ rfl
  | all => exact holds.ok h m _ rfl
  | sum => exact holds.ok h m _ rfl
theorem eat_of {c : Con} {n : Int} {Q : VK} {w : W} {v : V} {ih : Int → Hs → Res W} {N : Int → Prop} (m : M g ρ A H) (r : RV ρ w v) (h : holds g ρ E (c.eat n w A ih) (KE Q)) (hN : ∀ n, holds g ρ E (ih n A) (KE Q) → N n) : c.yd Q n v H N := by
  unfold Con.eat at h
  split at h
  · obtain rfl := r
    refine ⟨_, rfl, ?_⟩
    split at h
    · rename_i hb; rw [if_pos hb]; exact holds.ok h m _ rfl
    · rename_i hb; rw [if_neg hb]; exact hN _ h
  · obtain rfl := r
    refine ⟨_, rfl, ?_⟩
    split at h
    · rename_i hb; rw [if_pos hb]; exact holds.ok h m _ rfl
    · rename_i hb; rw [if_neg hb]; exact hN _ h
  · obtain rfl := r
    exact ⟨_, rfl, hN _ h⟩
  · exact h.elim
theorem gx1_of {K : PySem.W.Frag} {c : Con} {P : Addr} {fuel : Nat} {mi : SrcT} {t : Tg} {vs : List Nat} {bt : BT} {me : ET} {Q : VK} (hP : P ∈ g.tabs) (hv : ∀ i ∈ t.ix, i ∈ vs) (h : rE g E (mGx1 c fuel mi t vs bt me) σ H Q) :
    tGx1 P (rI g E mi) (gT K t) (rB g noE bt) (rE g noE me) vs σ H (c.yd Q) (c.en Q) := by
  obtain ⟨ρ, S, A, a, h⟩ := h
  refine ⟨ρ, S, A, a, (holds.bind h).imp fun ρ1 s A1 H1 e1 m1 h1 J hJ => ⟨m1.tab P hP, fun H2 hH2 => ?_⟩⟩
  have m2 := m1.tabbed hP hH2
  refine ⟨fun i n k H => ∃ ρ3 A3, Ext ρ1 ρ3 ∧ M g ρ3 A3 H ∧ holds g ρ3 E (loopN (fun _ _ _ => .bad) (gx1Step c s t (wipeW S vs) bt me) n i k A3) (KE Q), ⟨fuel, ρ1, A1, Ext.refl _, m2, h1⟩, ?_⟩
  rintro i n k H ⟨ρ3, A3, e3, m3, h3⟩
  cases n with
  | zero => exact h3.elim
  | succ n =>
    have h3 : holds g ρ3 E (gx1Step c s t (wipeW S vs) bt me (loopN (fun _ _ _ => .bad) (gx1Step c s t (wipeW S vs) bt me) n) i k A3) (KE Q) := h3
    have w3 := (hJ g).ext e3
    unfold gx1Step at h3
    split at h3
    · exact h3.elim
    · rename_i hx
      exact .inl ⟨w3.stop ρ3 A3 H i (Ext.refl _) m3 hx, fin_of m3 h3⟩
    · rename_i w A4 hx
      obtain ⟨go, yl⟩ := w3.item ρ3 A3 H i w A4 (Ext.refl _) m3 hx
      refine .inr ⟨go, fun k' H' => ∃ ρ3 A3, Ext ρ1 ρ3 ∧ M g ρ3 A3 H' ∧ holds g ρ3 E (loopN (fun _ _ _ => .bad) (gx1Step c s t (wipeW S vs) bt me) n (i + 1) k' A3) (KE Q), fun k' H' q => ⟨n, Nat.lt_succ_self n, q⟩, fun x H' hy => ?_⟩
      obtain ⟨ρ4, e4, m4, r4⟩ := yl x H' hy
      split at h3
      · exact h3.elim
      · rename_i S1 hS
        have sw : SR ρ4 (wipeW S vs) (wipe σ vs) := (((a.s.ext e1).ext e3).ext e4).wipe vs
        obtain ⟨σ1, s1, k1, k2⟩ := put_of (K := K) m4 sw r4 hS
        refine k1 _ ⟨(k2 vs hv).trans wipe_wipe, ?_⟩
        refine bindBX (E := E) ⟨s1, m4⟩ (h3.ext e4) fun ρ5 b A5 H5 e5 a5 h5 => ?_
        cases b with
        | false => exact ⟨ρ5, A5, (e3.trans e4).trans e5, a5.m, h5⟩
        | true =>
          rw [if_pos rfl] at h5 ⊢
          refine bindEX (E := E) a5 h5 fun ρ6 w A6 y H6 e6 a6 r6 h6 => ?_
          exact eat_of a6.m r6 h6 fun k' h7 => ⟨ρ6, A6, ((e3.trans e4).trans e5).trans e6, a6.m, h7⟩
def gxIn (c : Con) (s : Src) (t : Tg) (S0 : Slots) (bt : BT) (me : ET) (fin : Int → Hs → Res W) (ih : Gl1) : Gl1 := fun i n A => match s.nxt i A with
  | .bad => .bad
  | .stop => fin n A
  | .item w A1 => match t.put w S0 A1 with
    | none => .bad
    | some S1 => (noX (bt S1 A1)).bind fun b A2 => if b = true then (noX (me S1 A2)).bind (fun w A3 => c.eat n w A3 (ih (i + 1))) else ih (i + 1) n A2
def gxOut (c : Con) (fuel : Nat) (s : Src) (t : Tg) (S0 : Slots) (bt : BT) (mi1 : SrcT) (t1 : Tg) (vs1 : List Nat) (bt1 : BT) (me : ET) (ih : Gl1) : Gl1 := fun i n A => match s.nxt i A with
  | .bad => .bad
  | .stop => .ok (c.fin n) A
  | .item w A1 => match t.put w S0 A1 with
    | none => .bad
    | some S1 => (noX (bt S1 A1)).bind fun b A2 => if b = true then (noX (mi1 S1 A2)).bind (fun s1 A3 => loopN (fun _ _ _ => .bad) (gxIn c s1 t1 (wipeW S1 vs1) bt1 me (ih (i + 1))) fuel 0 n A3) else ih (i + 1) n A2
def mGx2 (c : Con) (fuel : Nat) (mi : SrcT) (t : Tg) (vs : List Nat) (bt : BT) (mi1 : SrcT) (t1 : Tg) (vs1 : List Nat) (bt1 : BT) (me : ET) : ET := fun S A => (mi S A).bind fun s A1 =>
  loopN (fun _ _ _ => .bad) (gxOut c fuel s t (wipeW S vs) bt mi1 t1 vs1 bt1 me) fuel 0 0 A1
theorem gx2_of {K : PySem.W.Frag} {c : Con} {P : Addr} {fuel : Nat} {mi mi1 : SrcT} {t t1 : Tg} {vs vs1 : List Nat} {bt bt1 : BT} {me : ET} {Q : VK} (hP : P ∈ g.tabs) (hv : ∀ i ∈ t.ix, i ∈ vs) (hv1 : ∀ i ∈ t1.ix, i ∈ vs1) (h : rE g E (mGx2 c fuel mi t vs bt mi1 t1 vs1 bt1 me) σ H Q) :
    tGx2 P (rI g E mi) (gT K t) (rB g noE bt) (rI g noE mi1) (gT K t1) (rB g noE bt1) (rE g noE me) vs vs1 σ H (c.yd Q) (c.en Q) := by
  obtain ⟨ρ, S, A, a, h⟩ := h
  refine ⟨ρ, S, A, a, (holds.bind h).imp fun ρ1 s A1 H1 e1 m1 h1 J hJ => ⟨m1.tab P hP, fun H2 hH2 => ?_⟩⟩
  have m2 := m1.tabbed hP hH2
  refine ⟨fun i mm k H => ∃ ρ3 A3 n, mm = n * (fuel + 2) ∧ Ext ρ1 ρ3 ∧ M g ρ3 A3 H ∧ holds g ρ3 E (loopN (fun _ _ _ => .bad) (gxOut c fuel s t (wipeW S vs) bt mi1 t1 vs1 bt1 me) n i k A3) (KE Q), ⟨_, ρ1, A1, fuel, rfl, Ext.refl _, m2, h1⟩, ?_⟩
  rintro i mm k H ⟨ρ3, A3, n, rfl, e3, m3, h3⟩
  cases n with
  | zero => exact h3.elim
  | succ n =>
    have hmul : (n + 1) * (fuel + 2) = n * (fuel + 2) + (fuel + 2) := Nat.succ_mul _ _
    have h3 : holds g ρ3 E (gxOut c fuel s t (wipeW S vs) bt mi1 t1 vs1 bt1 me (loopN (fun _ _ _ => .bad) (gxOut c fuel s t (wipeW S vs) bt mi1 t1 vs1 bt1 me) n) i k A3) (KE Q) := h3
    generalize hih : loopN (fun _ _ _ => .bad) (gxOut c fuel s t (wipeW S vs) bt mi1 t1 vs1 bt1 me) n = ih at h3
    have w3 := (hJ g).ext e3
    unfold gxOut at h3
    split at h3
    · exact h3.elim
    · rename_i hx
      exact .inl ⟨w3.stop ρ3 A3 H i (Ext.refl _) m3 hx, fin_of m3 h3⟩
    · rename_i w A4 hx
      obtain ⟨go, yl⟩ := w3.item ρ3 A3 H i w A4 (Ext.refl _) m3 hx
      refine .inr ⟨go, fun mm' k' H' => mm' = n * (fuel + 2) ∧ ∃ ρ3 A3, Ext ρ1 ρ3 ∧ M g ρ3 A3 H' ∧ holds g ρ3 E (ih (i + 1) k' A3) (KE Q), fun mm' k' H' q => ⟨by omega, q.2.elim fun ρ3 z => z.elim fun A3 z => ⟨ρ3, A3, n, q.1, by subst hih; exact z⟩⟩, fun x H' hy => ?_⟩
      obtain ⟨ρ4, e4, m4, r4⟩ := yl x H' hy
      split at h3
      · exact h3.elim
      · rename_i S1 hS
        have sw : SR ρ4 (wipeW S vs) (wipe σ vs) := (((a.s.ext e1).ext e3).ext e4).wipe vs
        obtain ⟨σ1, s1, k1, k2⟩ := put_of (K := K) m4 sw r4 hS
        refine k1 _ ⟨(k2 vs hv).trans wipe_wipe, ?_⟩
        refine bindBX (E := E) ⟨s1, m4⟩ (h3.ext e4) fun ρ5 b A5 H5 e5 a5 h5 => ?_
        cases b with
        | false => exact ⟨_, rfl, ρ5, A5, (e3.trans e4).trans e5, a5.m, h5⟩
        | true =>
          rw [if_pos rfl] at h5 ⊢
          refine bindIX (E := E) a5 h5 fun ρ6 s6 A6 J6 H6 e6 a6 w6 h6 => ?_
          refine ⟨fun j kk n1 H => ∃ ρ7 A7 r, kk = n * (fuel + 2) + r + 1 ∧ Ext ρ6 ρ7 ∧ M g ρ7 A7 H ∧ holds g ρ7 E (loopN (fun _ _ _ => .bad) (gxIn c s6 t1 (wipeW S1 vs1) bt1 me (ih (i + 1))) r j n1 A7) (KE Q), ⟨n * (fuel + 2) + fuel + 1, by omega, ρ6, A6, fuel, rfl, Ext.refl _, a6.m, h6⟩, ?_⟩
          rintro j kk n1 H7 ⟨ρ7, A7, r, rfl, e7, m7, h7⟩
          have up := ((((e3.trans e4).trans e5).trans e6).trans e7)
          cases r with
          | zero => exact h7.elim
          | succ r =>
            have h7 : holds g ρ7 E (gxIn c s6 t1 (wipeW S1 vs1) bt1 me (ih (i + 1)) (loopN (fun _ _ _ => .bad) (gxIn c s6 t1 (wipeW S1 vs1) bt1 me (ih (i + 1))) r) j n1 A7) (KE Q) := h7
            have w7 := w6.ext e7
            unfold gxIn at h7
            split at h7
            · exact h7.elim
            · rename_i hx7
              exact .inl ⟨w7.stop ρ7 A7 H7 j (Ext.refl _) m7 hx7, _, by omega, rfl, ρ7, A7, up, m7, h7⟩
            · rename_i w8 A8 hx8
              obtain ⟨go8, yl8⟩ := w7.item ρ7 A7 H7 j w8 A8 (Ext.refl _) m7 hx8
              refine .inr ⟨go8, fun n1 H' => ∃ ρ7 A7, Ext ρ6 ρ7 ∧ M g ρ7 A7 H' ∧ holds g ρ7 E (loopN (fun _ _ _ => .bad) (gxIn c s6 t1 (wipeW S1 vs1) bt1 me (ih (i + 1))) r (j + 1) n1 A7) (KE Q), fun n1 H' q => ⟨n * (fuel + 2) + r + 1, by omega, q.elim fun ρ7 z => z.elim fun A7 z => ⟨ρ7, A7, r, rfl, z⟩⟩, fun x1 H' hy1 => ?_⟩
              obtain ⟨ρ9, e9, m9, r9⟩ := yl8 x1 H' hy1
              split at h7
              · exact h7.elim
              · rename_i S9 hS9
                have sw9 : SR ρ9 (wipeW S1 vs1) (wipe σ1 vs1) := ((((s1.ext e5).ext e6).ext e7).ext e9).wipe vs1
                obtain ⟨σ9, s9, k9, k9'⟩ := put_of (K := K) m9 sw9 r9 hS9
                refine k9 _ ⟨(k9' vs1 hv1).trans wipe_wipe, ?_⟩
                refine bindBX (E := E) ⟨s9, m9⟩ (h7.ext e9) fun ρ10 b A10 H10 e10 a10 h10 => ?_
                cases b with
                | false => exact ⟨ρ10, A10, (e7.trans e9).trans e10, a10.m, h10⟩
                | true =>
                  rw [if_pos rfl] at h10 ⊢
                  refine bindEX (E := E) a10 h10 fun ρ11 w A11 y H11 e11 a11 r11 h11 => ?_
                  exact eat_of a11.m r11 h11 fun k' h12 => ⟨ρ11, A11, ((e7.trans e9).trans e10).trans e11, a11.m, h12⟩
end
end K33
namespace K33
open PySem PySem.Spec PyProof.Rows L2
section
variable {X : Cx} {g : Gr} {E : XK} {ρ : List Addr} {S : Slots} {A : Hs} {σ : L2.St} {H : Hp} {α β : Type}
variable {e o i a b : Expr} {es rest : List Expr} {ma mb mc mo mv : ET} {ba : BT} {ml : LT} {sa sb : ST} {pos apos cpos : Pos}

/-! ## comprehensions, generator expressions: the rules -/
theorem d_lc {elt tg iter : Expr} {ifs : List Expr} {scope : Scope} {own : List (Str × Nat)} {fuel : Nat} {mi : SrcT} {t : Tg} {bt : BT} {me : ET} (hc : X.calm = true) (hN : X.N.Nodup) (hi : PI X tg iter (rI g E mi)) (ok : BlkOk X.N X.env.scope scope own) (hv : ∀ i ∈ t.ix, i ∈ own.map (·.2))
    (hg : ∀ (s : Shared) (H : Hp) (C : Addr) (cl : List (Str × Addr)) (fp : List Addr), PG (X.blk s H scope (compEnvC scope cl C X.env) fp) tg (gT X.K t)) (ht : ∀ (s : Shared) (H : Hp) (C : Addr) (cl : List (Str × Addr)) (fp : List Addr), PTs (X.blk s H scope (compEnvC scope cl C X.env) fp) ifs (rB g noE bt))
    (he : ∀ (s : Shared) (H : Hp) (C : Addr) (cl : List (Str × Addr)) (fp : List Addr), PE (X.blk s H scope (compEnvC scope cl C X.env) fp) elt (rE g noE me)) (hs : ∀ x, foldedSetIterable iter X.env x = pure x := by intro _; rfl) :
    PE X (.ListComp elt [⟨tg, iter, ifs, 0⟩] scope pos) (rE g E (mLc fuel mi t (own.map (·.2)) bt me)) := PE.imp (pe_lc hc hN hi ok hg ht he hs) fun _ _ _ h => lc_of hv h
theorem d_setLc {j : Nat} {y : Str} {py : Pos} {elt tg iter : Expr} {ifs : List Expr} {scope : Scope} {own : List (Str × Nat)} {spos : Pos} {fuel : Nat} {mi : SrcT} {t : Tg} {bt : BT} {me : ET} (hc : X.calm = true) (hN : X.N.Nodup) (hy : X.N[j]? = some y) (hyl : X.env.scope.names.lookup y = some .local)
    (hsw : swapsWith (.ListComp elt [⟨tg, iter, ifs, 0⟩] scope pos) (some (.Name y py)) spos.line X.env = pure true) (hi : PI X tg iter (rI g E mi)) (ok : BlkOk X.N X.env.scope scope own) (hv : ∀ i ∈ t.ix, i ∈ own.map (·.2))
    (hg : ∀ (s : Shared) (H : Hp) (C : Addr) (cl : List (Str × Addr)) (fp : List Addr), PG (X.blk s H scope (compEnvC scope cl C X.env) fp) tg (gT X.K t)) (ht : ∀ (s : Shared) (H : Hp) (C : Addr) (cl : List (Str × Addr)) (fp : List Addr), PTs (X.blk s H scope (compEnvC scope cl C X.env) fp) ifs (rB g noE bt))
    (he : ∀ (s : Shared) (H : Hp) (C : Addr) (cl : List (Str × Addr)) (fp : List Addr), PE (X.blk s H scope (compEnvC scope cl C X.env) fp) elt (rE g noE me)) (hs : ∀ x, foldedSetIterable iter X.env x = pure x := by intro _; rfl) :
    PS X (.Assign [.Name y py] (.ListComp elt [⟨tg, iter, ifs, 0⟩] scope pos) spos) (rS g E (mAsg (mLc fuel mi t (own.map (·.2)) bt me) (.nm j))) :=
  PS.imp (ps_setLc hc hN hy hyl hsw hi ok hg ht he hs) fun D σ H h => by
    have z := asg_of (K := X.K) (t := .nm j) h
    exact lc_of hv z
theorem d_lc2 {elt tg iter tg1 iter1 : Expr} {ifs ifs1 : List Expr} {scope : Scope} {own : List (Str × Nat)} {vs1 : List Nat} {fuel : Nat} {mi mi1 : SrcT} {t t1 : Tg} {bt bt1 : BT} {me : ET} (hc : X.calm = true) (hN : X.N.Nodup) (hi : PI X tg iter (rI g E mi)) (ok : BlkOk X.N X.env.scope scope own) (hv : ∀ i ∈ t.ix, i ∈ own.map (·.2)) (hv1 : ∀ i ∈ t1.ix, i ∈ vs1) (hvv : ∀ i ∈ vs1, i ∈ own.map (·.2))
    (hg : ∀ (s : Shared) (H : Hp) (C : Addr) (cl : List (Str × Addr)) (fp : List Addr), PG (X.blk s H scope (compEnvC scope cl C X.env) fp) tg (gT X.K t)) (ht : ∀ (s : Shared) (H : Hp) (C : Addr) (cl : List (Str × Addr)) (fp : List Addr), PTs (X.blk s H scope (compEnvC scope cl C X.env) fp) ifs (rB g noE bt))
    (hi1 : ∀ (s : Shared) (H : Hp) (C : Addr) (cl : List (Str × Addr)) (fp : List Addr), PI (X.blk s H scope (compEnvC scope cl C X.env) fp) tg1 iter1 (rI g noE mi1))
    (hg1 : ∀ (s : Shared) (H : Hp) (C : Addr) (cl : List (Str × Addr)) (fp : List Addr), PG (X.blk s H scope (compEnvC scope cl C X.env) fp) tg1 (gT X.K t1)) (ht1 : ∀ (s : Shared) (H : Hp) (C : Addr) (cl : List (Str × Addr)) (fp : List Addr), PTs (X.blk s H scope (compEnvC scope cl C X.env) fp) ifs1 (rB g noE bt1))
    (he : ∀ (s : Shared) (H : Hp) (C : Addr) (cl : List (Str × Addr)) (fp : List Addr), PE (X.blk s H scope (compEnvC scope cl C X.env) fp) elt (rE g noE me)) (hs : ∀ x, foldedSetIterable iter X.env x = pure x := by intro _; rfl) (hs1 : ∀ env x, foldedSetIterable iter1 env x = pure x := by intro _ _; rfl) :
    PE X (.ListComp elt [⟨tg, iter, ifs, 0⟩, ⟨tg1, iter1, ifs1, 0⟩] scope pos) (rE g E (mLc2 fuel mi t (own.map (·.2)) bt mi1 t1 vs1 bt1 me)) := PE.imp (pe_lc2 hc hN hi ok hvv hg ht hi1 hg1 ht1 he hs hs1) fun _ _ _ h => lc2_of hv hv1 h
variable {c P : Addr} {el tg it0 : Expr} {cs : List Expr} {sc : Scope} {p pn p2 : Pos} {own : List (Str × Nat)} {k fuel : Nat} {mi mi1 : SrcT} {t t1 : Tg} {bt bt1 : BT} {me : ET}
/-- any, all, sum of a generator expression -/
def conName : Con → Str
  | .any => "any"
  | .all => "all"
  | .sum => "sum"
theorem d_gx1 {cn : Con} (hg : Gl X (conName cn)) (hm : X.mg (conName cn) = none) (G : GxOk X c P sc own k) (hP : P ∈ g.tabs) (hv : ∀ i ∈ t.ix, i ∈ own.map (·.2)) (hi : PI X tg it0 (rI g E mi)) (hs : ∀ v, genFold it0 X.env v = pure v)
    (hgt : ∀ s H cl C cv A' fp pn, Room k A' → PG (genY X sc s H cl C cv A' fp pn) tg (gT X.K t)) (ht : ∀ s H cl C cv A' fp pn, Room k A' → PTs (genY X sc s H cl C cv A' fp pn) cs (rB g noE bt)) (he : ∀ s H cl C cv A' fp pn, Room k A' → PE (genY X sc s H cl C cv A' fp pn) el (rE g noE me)) :
    PE X (.Call (.Name (conName cn) pn) [.GeneratorExp el [⟨tg, it0, cs, 0⟩] sc p] [] p2) (rE g E (mGx1 cn fuel mi t (own.map (·.2)) bt me)) := by
  have px := px_1 (p := p) G hi hs hgt ht he
  have r1 : Room 1 X.A := G.room.mono (by omega)
  cases cn with
  | any => exact PE.imp (pe_anyG r1 hg hm px) fun _ _ _ h => gx1_of (c := .any) hP hv h
  | all => exact PE.imp (pe_allG r1 hg hm px) fun _ _ _ h => gx1_of (c := .all) hP hv h
  | sum => exact PE.imp (pe_sumG r1 hg hm px) fun _ _ _ h => gx1_of (c := .sum) hP hv h
theorem d_gx2 {cn : Con} {tg1 i1 : Expr} {c1 : List Expr} {vs1 : List Nat} (hg : Gl X (conName cn)) (hm : X.mg (conName cn) = none) (G : GxOk X c P sc own k) (hP : P ∈ g.tabs) (hv : ∀ i ∈ t.ix, i ∈ own.map (·.2)) (hv1 : ∀ i ∈ t1.ix, i ∈ vs1) (hvv : ∀ i ∈ vs1, i ∈ own.map (·.2)) (hi : PI X tg it0 (rI g E mi)) (hs : ∀ v, genFold it0 X.env v = pure v)
    (hgt : ∀ s H cl C cv A' fp pn, Room k A' → PG (genY X sc s H cl C cv A' fp pn) tg (gT X.K t)) (ht : ∀ s H cl C cv A' fp pn, Room k A' → PTs (genY X sc s H cl C cv A' fp pn) cs (rB g noE bt)) (hi1 : ∀ s H cl C cv A' fp pn, Room k A' → PI (genY X sc s H cl C cv A' fp pn) tg1 i1 (rI g noE mi1))
    (hgt1 : ∀ s H cl C cv A' fp pn, Room k A' → PG (genY X sc s H cl C cv A' fp pn) tg1 (gT X.K t1)) (ht1 : ∀ s H cl C cv A' fp pn, Room k A' → PTs (genY X sc s H cl C cv A' fp pn) c1 (rB g noE bt1)) (he : ∀ s H cl C cv A' fp pn, Room k A' → PE (genY X sc s H cl C cv A' fp pn) el (rE g noE me)) (hs1 : ∀ en x, foldedSetIterable i1 en x = pure x := by intro _ _; rfl) :
    PE X (.Call (.Name (conName cn) pn) [.GeneratorExp el [⟨tg, it0, cs, 0⟩, ⟨tg1, i1, c1, 0⟩] sc p] [] p2) (rE g E (mGx2 cn fuel mi t (own.map (·.2)) bt mi1 t1 vs1 bt1 me)) := by
  have px := px_2 (p := p) G hi hs hgt ht he hi1 hgt1 ht1 hs1 hvv
  have r1 : Room 1 X.A := G.room.mono (by omega)
  cases cn with
  | any => exact PE.imp (pe_anyG r1 hg hm px) fun _ _ _ h => gx2_of (c := .any) hP hv hv1 h
  | all => exact PE.imp (pe_allG r1 hg hm px) fun _ _ _ h => gx2_of (c := .all) hP hv hv1 h
  | sum => exact PE.imp (pe_sumG r1 hg hm px) fun _ _ _ h => gx2_of (c := .sum) hP hv hv1 h

/-! ## fields -/
theorem lookF {f : Str} {w : W} : ∀ {fs : List (Str × W)} {vs : List (Str × V)}, RKV ρ fs vs → fs.lookup f = some w → ∃ v, vs.lookup f = some v ∧ RV ρ w v
  | (k, w1) :: fs, (k', v1) :: vs, .cons r t, h => by
    have e : k = k' := r.1
    subst e
    rw [List.lookup_cons] at h ⊢
    cases hb : f == k with
    | true => rw [hb] at h; cases h; exact ⟨v1, rfl, r.2⟩
    | false => rw [hb] at h; exact lookF t h
theorem lookN {f : Str} : ∀ {fs : List (Str × W)} {vs : List (Str × V)}, RKV ρ fs vs → fs.lookup f = none → vs.lookup f = none
  | [], [], .nil, _ => rfl
  | (k, w1) :: fs, (k', v1) :: vs, .cons r t, h => by
    have e : k = k' := r.1
    subst e
    rw [List.lookup_cons] at h ⊢
    cases hb : f == k with
    | true => rw [hb] at h; cases h
    | false => rw [hb] at h; exact lookN t h
def putFW (f : Str) (w : W) : List (Str × W) → List (Str × W)
  | [] => [(f, w)]
  | (k, x) :: r => if k = f then (k, w) :: r else (k, x) :: putFW f w r
theorem putF_of {f : Str} {w : W} {v : V} (rv : RV ρ w v) : ∀ {fs : List (Str × W)} {vs : List (Str × V)}, RKV ρ fs vs → RKV ρ (putFW f w fs) (putF f v vs)
  | [], [], .nil => .cons ⟨rfl, rv⟩ .nil
  | (k, w1) :: fs, (k', v1) :: vs, .cons r t => by
    have e : k = k' := r.1
    subst e
    unfold putFW putF
    by_cases h : k = f
    · rw [if_pos h, if_pos h]; exact .cons ⟨rfl, rv⟩ t
    · rw [if_neg h, if_neg h]; exact .cons r (putF_of rv t)
/-- the fields of the instance of class c -/
def insOf (c : Nat) (A : Hs) : W → Option (Nat × List (Str × W))
  | .ref k => match A[k]? with
    | some (.ins c' fs) => if c' = c then some (k, fs) else none
    | _ => none
  | _ => none
theorem insOf_of {c : Nat} {w : W} {v : V} {k : Nat} {fs : List (Str × W)} (m : M g ρ A H) (r : RV ρ w v) (h : insOf c A w = some (k, fs)) : w = .ref k ∧ A[k]? = some (.ins c fs) ∧ ∃ a dx vs, v = .ref a ∧ ρ[k]? = some a ∧ RKV ρ fs vs ∧ H a = some (.ins (g.ga c) dx vs) := by
  cases w with
  | ref j =>
    obtain ⟨a, rfl, ea⟩ := r
    have h : (match A[j]? with | some (.ins c' fs) => if c' = c then some (j, fs) else none | _ => none) = some (k, fs) := h
    split at h
    · rename_i c' fs' hj
      split at h
      · rename_i hc
        cases h
        subst hc
        obtain ⟨dx, vs, rv, hv⟩ := m.at_ hj ea
        exact ⟨rfl, hj, a, dx, vs, rfl, ea, rv, hv⟩
      · cases h
    · cases h
  | _ => cases h
def mFld (c : Nat) (f : Str) (m : ET) : ET := fun S A => (m S A).bind fun w A1 => match insOf c A1 w with
  | some (_, fs) => match fs.lookup f with
    | some w' => .ok w' A1
    | none => .bad
  | none => .bad
theorem d_fld {c : Nat} {f : Str} (hC : Cls X.K (g.ga c)) (hn : NoAttr X.K (g.ga c) f) (he : PE X e (rE g E ma)) (hb : attributeBase e f X.env (eval e X.env) = eval e X.env := by rfl) : PE X (.Attribute e f pos) (rE g E (mFld c f ma)) :=
  PE.imp (pe_fld he hb) fun σ H Q ⟨ρ, S, A, at_, h⟩ => bindE at_ h fun ρ1 w A1 x H1 e1 a1 r1 h1 => by
    split at h1
    · rename_i k fs hk
      obtain ⟨_, _, a, dx, vs, rfl, ea, rv, hv⟩ := insOf_of a1.m r1 hk
      split at h1
      · rename_i w' hw
        obtain ⟨v, hv2, rw'⟩ := lookF rv hw
        exact ⟨a, _, dx, vs, v, rfl, hv, hC, hn, hv2, holds.ok (a := w') h1 a1.m v rw'⟩
      · exact h1.elim
    · exact h1.elim
/-- e.f = value -/
def mSetF (c : Nat) (f : Str) (mv mo : ET) : ST := fun S A => (mv S A).bind fun wv A1 => (mo S A1).bind fun wo A2 => match insOf c A2 wo with
  | some (k, fs) => if decide (fs.length < 1000) = true then .ok (.nx S) (A2.set k (.ins c (putFW f wv fs))) else .bad
  | none => .bad
theorem ins_put {c k : Nat} {f : Str} {w : W} {v : V} {a dx : Addr} {fs : List (Str × W)} {vs : List (Str × V)} (m : M g ρ A H) (hk : A[k]? = some (.ins c fs)) (ea : ρ[k]? = some a) (rv : RKV ρ fs vs) (r : RV ρ w v) : M g ρ (A.set k (.ins c (putFW f w fs))) (upd H a (.ins (g.ga c) dx (putF f v vs))) :=
  m.put ea hk rfl rfl ⟨dx, _, putF_of r rv, upd_same⟩
theorem d_setF {c : Nat} {f : Str} {pos' : Pos} (hC : Cls X.K (g.ga c)) (hn : NoAttr X.K (g.ga c) f) (ho : PE X o (rE g E mo)) (hv : PE X e (rE g E mv)) (hs : swapsWith e (some (.Attribute o f pos')) pos.line X.env = pure false := by rfl) : PS X (.Assign [.Attribute o f pos'] e pos) (rS g E (mSetF c f mv mo)) :=
  PS.imp (ps_fld ho hv hs) fun D σ H ⟨ρ, S, A, at_, h⟩ => bindE at_ h fun ρ1 wv A1 x H1 e1 a1 r1 h1 => bindE a1 h1 fun ρ2 wo A2 y H2 e2 a2 r2 h2 => by
    split at h2
    · rename_i k fs hk
      obtain ⟨_, hA, a, dx, vs, rfl, ea, rv, hv⟩ := insOf_of a2.m r2 hk
      split at h2
      · rename_i hl
        have m3 := ins_put (f := f) (dx := dx) a2.m hA ea rv (r1.ext e2)
        exact ⟨a, _, dx, vs, rfl, hv, hC, hn, by rw [← Paired.len2 rv]; exact of_decide_eq_true hl, holds.ok (a := Fl.nx S) h2 m3 σ a2.s⟩
      · exact h2.elim
    · exact h2.elim
/-- e.f += value -/
def mAugF (c : Nat) (f : Str) (op : Op2) (mo mv : ET) : ST := fun S A => (mo S A).bind fun wo A1 => match insOf c A1 wo with
  | some (k, fs) => match fs.lookup f with
    | some w0 => (mv S A1).bind fun wv A2 => (op w0 wv A2).bind fun w1 A3 => match A3[k]? with
      | some (.ins c' fs') => if c' = c ∧ fs'.length < 1000 then .ok (.nx S) (A3.set k (.ins c (putFW f w1 fs'))) else .bad
      | _ => .bad
    | none => .bad
  | none => .bad
theorem d_augF {c : Nat} {f : Str} {tpos : Pos} {op : Operator} {r : R2} {fo : Op2} (hC : Cls X.K (g.ga c)) (hn : NoAttr X.K (g.ga c) f) (hop : InOp X op r) (hp : Prim g E r fo) (ho : PE X o (rE g E mo)) (hv : PE X e (rE g E mv)) : PS X (.AugAssign (.Attribute o f tpos) op e pos) (rS g E (mAugF c f fo mo mv)) :=
  PS.imp (ps_fldaug ho hv hop) fun D σ H ⟨ρ, S, A, at_, h⟩ => bindE at_ h fun ρ1 wo A1 x H1 e1 a1 r1 h1 => by
    split at h1
    · rename_i k fs hk
      obtain ⟨_, hA, a, dx, vs, rfl, ea, rv, hv⟩ := insOf_of a1.m r1 hk
      split at h1
      · rename_i w0 hw
        obtain ⟨v0, hv2, rw0⟩ := lookF rv hw
        refine ⟨a, _, dx, vs, v0, rfl, hv, hC, hn, hv2, bindE a1 h1 fun ρ2 wv A2 y H2 e2 a2 r2 h2 => hp ρ2 A2 H2 w0 wv v0 y _ a2.m (rw0.ext e2) r2 ((holds.bind h2).imp fun ρ3 w1 A3 H3 e3 m3 h3 v3 r3 => ?_)⟩
        split at h3
        · rename_i c' fs' hk3
          split at h3
          · rename_i hcl
            obtain ⟨rfl, hl⟩ := hcl
            have ea3 := (e2.trans e3).get ea
            obtain ⟨dx', vs', rv', hv'⟩ := m3.at_ hk3 ea3
            exact ⟨dx', vs', hv', by rw [← Paired.len2 rv']; exact hl, holds.ok (a := Fl.nx S) h3 (ins_put (f := f) (dx := dx') m3 hk3 ea3 rv' r3) σ ((a2.s.ext e3))⟩
          · exact h3.elim
        · exact h3.elim
      · exact h1.elim
    · exact h1.elim

/-! ## dicts, lists: stores -/
def mPutD (mv mo mk : ET) : ST := fun S A => (mv S A).bind fun wv A1 => (mo S A1).bind fun wo A2 => (mk S A2).bind fun wk A3 => match wo with
  | .ref k => match A3[k]? with
    | some (.dK kvs) => match wKey wk with
      | some key => if decide (kvs.length < sizeLine) = true then .ok (.nx S) (A3.set k (.dK (putW kvs key wv))) else .bad
      | none => .bad
    | _ => .bad
  | _ => .bad
theorem d_putD {pos' : Pos} {mk : ET} (hu : X.A.units + 1 < cLine) (ho : PE X o (rE g E mo)) (hi : PE X i (rE g E mk)) (hv : PE X e (rE g E mv)) (hs : swapsWith e (some (.Subscript o i pos')) pos.line X.env = pure false := by rfl) : PS X (.Assign [.Subscript o i pos'] e pos) (rS g E (mPutD mv mo mk)) :=
  PS.imp (ps_dput hu ho hi hv hs) fun D σ H ⟨ρ, S, A, at_, h⟩ => bindE at_ h fun ρ1 wv A1 x H1 e1 a1 r1 h1 => bindE a1 h1 fun ρ2 wo A2 y H2 e2 a2 r2 h2 => bindE a2 h2 fun ρ3 wk A3 z H3 e3 a3 r3 h3 => by
    split at h3
    · obtain ⟨a, rfl, ea⟩ := r2.ext e3
      split at h3
      · rename_i kvs hk
        obtain ⟨us, ru, hu⟩ := a3.m.at_ hk ea
        split at h3
        · rename_i key hkey
          obtain rfl := wKey_of r3 hkey
          split at h3
          · rename_i hl
            exact ⟨a, _, rfl, DPut.k hu (by rw [← Paired.len2 ru]; exact of_decide_eq_true hl), holds.ok (a := Fl.nx S) h3 (a3.m.put ea hk rfl rfl ⟨_, putW_of ((r1.ext e2).ext e3) ru, upd_same⟩) σ a3.s⟩
          · exact h3.elim
        · exact h3.elim
      · exact h3.elim
    · exact h3.elim
def mAugD (op : Op2) (mo mk mv : ET) : ST := fun S A => (mo S A).bind fun wo A1 => (mk S A1).bind fun wk A2 => match dGet A2 wo wk with
  | some (some w0) => (mv S A2).bind fun wv A3 => (op w0 wv A3).bind fun w1 A4 => match wo with
    | .ref k => match A4[k]? with
      | some (.dK kvs) => match wKey wk with
        | some key => if decide (kvs.length < sizeLine) = true then .ok (.nx S) (A4.set k (.dK (putW kvs key w1))) else .bad
        | none => .bad
      | _ => .bad
    | _ => .bad
  | _ => .bad
theorem d_augD {tpos : Pos} {op : Operator} {r : R2} {fo : Op2} {mk : ET} (hu : X.A.units + 1 < cLine) (hop : InOp X op r) (hp : Prim g E r fo) (ho : PE X o (rE g E mo)) (hi : PE X i (rE g E mk)) (hv : PE X e (rE g E mv))
    (ha : ∀ ov iv new, augStore i ov iv new = (do holding [new, ov, iv] (setItem ov iv new); release [new, ov, iv] []; pure .next) := by intros; rfl) : PS X (.AugAssign (.Subscript o i tpos) op e pos) (rS g E (mAugD fo mo mk mv)) :=
  PS.imp (ps_daug hu ho hi hv hop ha) fun D σ H ⟨ρ, S, A, at_, h⟩ => bindE at_ h fun ρ1 wo A1 x H1 e1 a1 r1 h1 => bindE a1 h1 fun ρ2 wk A2 y H2 e2 a2 r2 h2 => by
    split at h2
    · rename_i w0 hw
      obtain ⟨a, ov, rfl, _, hg, v0, rfl, rv0⟩ := dGet_of a2.m (r1.ext e2) r2 hw
      refine ⟨a, v0, rfl, hg, bindE a2 h2 fun ρ3 wv A3 y3 H3 e3 a3 r3 h3 => hp ρ3 A3 H3 w0 wv v0 y3 _ a3.m (rv0.ext e3) r3 ((holds.bind h3).imp fun ρ4 w1 A4 H4 e4 m4 h4 v4 r4 => ?_)⟩
      cases wo with
      | ref k =>
        obtain ⟨a', ea', ea⟩ := ((r1.ext e2).ext e3).ext e4
        cases ea'
        have h4 : holds g ρ4 E (match A4[k]? with
          | some (.dK kvs) => match wKey wk with
            | some key => if decide (kvs.length < sizeLine) = true then Res.ok (Fl.nx S) (A4.set k (.dK (putW kvs key w1))) else .bad
            | none => .bad
          | _ => .bad) (KS D) := h4
        split at h4
        · rename_i kvs hk
          obtain ⟨us, ru, hu⟩ := m4.at_ hk ea
          split at h4
          · rename_i key hkey
            obtain rfl := wKey_of r2 hkey
            split at h4
            · rename_i hl
              exact ⟨_, DPut.k hu (by rw [← Paired.len2 ru]; exact of_decide_eq_true hl), holds.ok (a := Fl.nx S) h4 (m4.put ea hk rfl rfl ⟨_, putW_of r4 ru, upd_same⟩) σ (a3.s.ext e4)⟩
            · exact h4.elim
          · exact h4.elim
        · exact h4.elim
      | _ => exact h4.elim
    · exact h2.elim
def mPutL (mv mo mk : ET) : ST := fun S A => (mv S A).bind fun wv A1 => (mo S A1).bind fun wo A2 => (mk S A2).bind fun wk A3 => match wo, wk with
  | .ref k, .int j => match A3[k]? with
    | some (.lst xs) => match ixN xs.length j with
      | some n => .ok (.nx S) (A3.set k (.lst (xs.set n wv)))
      | none => .bad
    | _ => .bad
  | _, _ => .bad
theorem d_putL {pos' : Pos} {mk : ET} (ho : PE X o (rE g E mo)) (hi : PE X i (rE g E mk)) (hv : PE X e (rE g E mv)) (hs : swapsWithSole [.Subscript o i pos'] e pos.line X.env = pure false := by rfl) (hw : swappedStores [.Subscript o i pos'] e X.env = pure none := by rfl)
    (h1 : (assignEach [.Subscript o i pos'] X.env).map (·.2) = [assign (.Subscript o i pos') X.env] := by rfl)
    (ha : ∀ v, assign (.Subscript o i pos') X.env v = (do
      let ov ← holding [v] (eval o X.env)
      let iv ← holding [v, ov] (eval i X.env)
      standAt pos'
      holding [v, ov, iv] (setItem ov iv v)
      release [v, ov, iv] []) := by intro _; rfl) : PS X (.Assign [.Subscript o i pos'] e pos) (rS g E (mPutL mv mo mk)) :=
  PS.imp (ps_asg hv (pg_sub ho hi set_list ha) hs hw h1) fun D σ H ⟨ρ, S, A, at_, h⟩ => bindE at_ h fun ρ1 wv A1 x H1 e1 a1 r1 h1 => bindE a1 h1 fun ρ2 wo A2 y H2 e2 a2 r2 h2 => bindE a2 h2 fun ρ3 wk A3 z H3 e3 a3 r3 h3 => by
    split at h3
    · obtain ⟨a, rfl, ea⟩ := r2.ext e3
      obtain rfl := r3
      split at h3
      · rename_i xs hk
        obtain ⟨us, ru, hu⟩ := a3.m.at_ hk ea
        split at h3
        · rename_i n hn
          exact ⟨a, us, _, n, rfl, rfl, hu, by rw [← Paired.len2 ru]; exact hn, holds.ok (a := Fl.nx S) h3 (a3.m.put ea hk rfl rfl ⟨_, Paired.set2 ((r1.ext e2).ext e3) n ru, upd_same⟩) σ a3.s⟩
        · exact h3.elim
      · exact h3.elim
    · exact h3.elim
/-- name op= e -/
def mAug (j : Nat) (op : Op2) (m : ET) : ST := fun S A => match S[j]? with
  | some (some w0) => (m S A).bind fun w A1 => (op w0 w A1).bind fun w1 A2 => .ok (.nx (S.set j (some w1))) A2
  | _ => .bad
theorem d_aug {j : Nat} {x : Str} {pos' : Pos} {op : Operator} {r : R2} {fo : Op2} (hN : X.N.Nodup) (hi : X.N[j]? = some x) (hx : Loc X.env.scope x) (he : PE X e (rE g E ma)) (ho : PIp X op r) (hp : Prim g E r fo) (hf : X.fn x = true ∨ X.env.scope.names.lookup x = some .local := by first | exact .inl rfl | exact .inr rfl | assumption) :
    PS X (.AugAssign (.Name x pos') op e pos) (rS g E (mAug j fo ma)) :=
  PS.imp (ps_aug hN hi hx he ho hf) fun D σ H ⟨ρ, S, A, at_, h⟩ => by
    unfold mAug at h
    split at h
    · rename_i w0 hw
      obtain ⟨y, e1, v0, e2, r0⟩ := Paired.get2 at_.s hw
      refine ⟨v0, by rw [e1, e2], bindE at_ h fun ρ1 w A1 x H1 e1 a1 r1 h1 => hp ρ1 A1 H1 w0 w v0 x _ a1.m (r0.ext e1) r1 ((holds.bind h1).imp fun ρ2 w1 A2 H2 e2 m2 h2 v2 r2 => ?_)⟩
      exact holds.ok (a := Fl.nx _) h2 m2 _ ((a1.s.ext e2).put r2)
    · exact h.elim
end
end K33
namespace K33
open PySem PySem.Spec PyProof.Rows L2
section
variable {X : Cx} {g : Gr} {E : XK} {ρ : List Addr} {S : Slots} {A : Hs} {σ : L2.St} {H : Hp} {α β : Type}
variable {e o i a b : Expr} {es rest : List Expr} {ma mb mc mo mv : ET} {ba : BT} {ml : LT} {sa sb : ST} {pos apos cpos : Pos}

/-! ## methods of built-in values -/
abbrev OpM := W → List W → Hs → Res W
def PrimM (g : Gr) (E : XK) (r : V → List V → Hp → VK → Prop) (f : OpM) : Prop := ∀ ρ A H w ws v vs Q, M g ρ A H → RV ρ w v → RVs ρ ws vs → holds g ρ E (f w ws A) (KE Q) → r v vs H Q
def isLst (A : Hs) : W → Bool
  | .ref k => match A[k]? with
    | some (.lst _) => true
    | _ => false
  | _ => false
def isStr : W → Bool
  | .str _ => true
  | _ => false
def mMeth (ty : Hs → W → Bool) (f : OpM) (mo : ET) (l : LT) : ET := fun S A => (mo S A).bind fun w A1 => if ty A1 w = true then (l S A1).bind fun ws A2 => f w ws A2 else .bad
theorem isLst_of {K : PySem.W.Frag} {w : W} {v : V} (m : M g ρ A H) (r : RV ρ w v) (h : isLst A w = true) : tyV K "list" v H := by
  cases w with
  | ref k =>
    obtain ⟨a, rfl, ea⟩ := r
    have h : (match A[k]? with | some (.lst _) => true | _ => false) = true := h
    split at h
    · rename_i xs hk
      obtain ⟨us, ru, hu⟩ := m.at_ hk ea
      exact .inl ⟨rfl, us, .of hu⟩
    · cases h
  | _ => cases h
theorem isStr_of {K : PySem.W.Frag} {w : W} {v : V} (r : RV ρ w v) (h : isStr w = true) : tyV K "str" v H := by
  cases w with
  | str x => obtain rfl := r; exact rfl
  | _ => cases h
theorem bm_of {T : String} {r : V → List V → Hp → VK → Prop} {f : OpM} {ty : Hs → W → Bool} {K : PySem.W.Frag} (hty : ∀ ρ A H w v, M g ρ A H → RV ρ w v → ty A w = true → tyV K T v H) (hp : PrimM g E r f) {Q : VK} (h : rE g E (mMeth ty f mo ml) σ H Q) : tBM K T r (rE g E mo) (rL g E ml) σ H Q := by
  obtain ⟨ρ, S, A, at_, h⟩ := h
  refine bindE at_ h fun ρ1 w A1 x H1 e1 a1 r1 h1 => ?_
  split at h1
  · rename_i ht
    exact ⟨hty ρ1 A1 H1 w x a1.m r1 ht, bindL a1 h1 fun ρ2 ws A2 xs H2 e2 a2 r2 h2 => hp ρ2 A2 H2 w ws x xs Q a2.m (r1.ext e2) r2 h2⟩
  · exact h1.elim
theorem d_bm {T id : String} {name : Str} {r : V → List V → Hp → VK → Prop} {f : OpM} {ty : Hs → W → Bool} (hty : ∀ ρ A H w v, M g ρ A H → RV ρ w v → ty A w = true → tyV X.K T v H) (pa : PlainAttrs T) (slot : Slot T name id) (ht : typeOf (.builtin id) = pure (.type "method_descriptor")) (hm : MtR X id r) (hp : PrimM g E r f) (ho : PE X o (rE g E mo)) (ha : PA X (e :: es) (rL g E ml))
    (hbase : attributeBase o name X.env (eval o X.env) = eval o X.env := by rfl)
    (hfew : ((backTo cpos (starEach (e :: es) X.env)).all (fun x => !x.1) && (backToKw cpos (keywordEach [] X.env)).all (fun x => x.1.isSome)
      && decide ((e :: es).length + ([] : List Keyword).length + (if ([] : List Keyword).isEmpty then 0 else 1) < 30)) = true := by rfl)
    (hline : (apos.endLine == cpos.line) = true := by rfl) (hs : starEach (e :: es) X.env = (false, eval e X.env) :: starEach es X.env := by rfl) (hplain : (backTo cpos (starEach es X.env)).any (·.1) = false := by rfl) :
    PE X (.Call (.Attribute o name apos) (e :: es) [] cpos) (rE g E (mMeth ty f mo ml)) := PE.imp (pe_bm pa slot ht hm ho ha hbase hfew hline hs hplain) fun _ _ _ h => bm_of hty hp h
theorem d_bm0 {T id : String} {name : Str} {r : V → List V → Hp → VK → Prop} {f : OpM} {ty : Hs → W → Bool} (hty : ∀ ρ A H w v, M g ρ A H → RV ρ w v → ty A w = true → tyV X.K T v H) (pa : PlainAttrs T) (slot : Slot T name id) (ht : typeOf (.builtin id) = pure (.type "method_descriptor")) (hm : MtR X id r) (hp : PrimM g E r f) (ho : PE X o (rE g E mo))
    (hbase : attributeBase o name X.env (eval o X.env) = eval o X.env := by rfl) (hline : (apos.endLine == cpos.line) = true := by rfl) : PE X (.Call (.Attribute o name apos) [] [] cpos) (rE g E (mMeth ty f mo mNil)) :=
  PE.imp (pe_bm0 pa slot ht hm ho hbase hline) fun σ H Q hq => by
    obtain ⟨ρ, S, A, at_, h⟩ := hq
    refine bindE at_ h fun ρ1 w A1 x H1 e1 a1 r1 h1 => ?_
    split at h1
    · rename_i ht'
      exact ⟨hty ρ1 A1 H1 w x a1.m r1 ht', hp ρ1 A1 H1 w [] x [] Q a1.m r1 .nil h1⟩
    · exact h1.elim
def opAppend : OpM := fun w ws A => match w, ws with
  | .ref k, [y] => match A[k]? with
    | some (.lst xs) => if sz (xs.length + 1) then .ok .non (A.set k (.lst (xs ++ [y]))) else .bad
    | _ => .bad
  | _, _ => .bad
theorem p_append : PrimM g E rAppend opAppend := by
  intro ρ A H w ws v vs Q m r rs h
  unfold opAppend at h
  split at h
  · obtain ⟨a, rfl, ea⟩ := r
    obtain ⟨y, rfl, ry⟩ := RVs.one rs
    split at h
    · rename_i xs hk
      split at h
      · rename_i hs
        obtain ⟨us, hu, hl, m2⟩ := m.app ea hk ry
        exact ⟨a, us, y, rfl, rfl, hu, by rw [← hl]; exact sz_ok hs, holds.ok (a := W.non) h m2 _ rfl⟩
      · exact h.elim
    · exact h.elim
  · exact h.elim
def opPop : OpM := fun w ws A => match w, ws with
  | .ref k, [] => match A[k]? with
    | some (.lst xs) => match xs[xs.length - 1]? with
      | some y => .ok y (A.set k (.lst xs.dropLast))
      | none => .bad
    | _ => .bad
  | _, _ => .bad
theorem Paired.drop1 {α β : Type} {F : α → β → Prop} : ∀ {l : List α} {m : List β}, Paired F l m → Paired F l.dropLast m.dropLast
  | _, _, .nil => .nil
  | _, _, .cons r .nil => .nil
  | _, _, .cons r (.cons r' t) => .cons r (Paired.drop1 (.cons r' t))
theorem p_pop : PrimM g E rPop opPop := by
  intro ρ A H w ws v vs Q m r rs h
  unfold opPop at h
  split at h
  · obtain ⟨a, rfl, ea⟩ := r
    cases rs
    split at h
    · rename_i xs hk
      obtain ⟨us, ru, hu⟩ := m.at_ hk ea
      split at h
      · rename_i y hy
        obtain ⟨z, hz, rz⟩ := Paired.get2 ru hy
        exact ⟨a, us, z, rfl, rfl, hu, by rw [← Paired.len2 ru]; exact hz, holds.ok (a := y) h (m.put ea hk rfl rfl ⟨_, Paired.drop1 ru, upd_same⟩) z rz⟩
      · exact h.elim
    · exact h.elim
  · exact h.elim
def opPopAt : OpM := fun w ws A => match w, ws with
  | .ref k, [.int j] => match A[k]? with
    | some (.lst xs) => match ixN xs.length j with
      | some n => match xs[n]? with
        | some y => if (decide (-(2 ^ 63) ≤ j) && decide (j < 2 ^ 63)) = true then .ok y (A.set k (.lst (xs.eraseIdx n))) else .bad
        | none => .bad
      | none => .bad
    | _ => .bad
  | _, _ => .bad
theorem Paired.erase1 {α β : Type} {F : α → β → Prop} : ∀ {l : List α} {m : List β} (n : Nat), Paired F l m → Paired F (l.eraseIdx n) (m.eraseIdx n)
  | _, _, _, .nil => .nil
  | _, _, 0, .cons _ t => t
  | _, _, n + 1, .cons r t => .cons r (Paired.erase1 n t)
theorem p_popAt : PrimM g E rPopAt opPopAt := by
  intro ρ A H w ws v vs Q m r rs h
  unfold opPopAt at h
  split at h
  · obtain ⟨a, rfl, ea⟩ := r
    obtain ⟨y0, rfl, rfl⟩ := RVs.one rs
    split at h
    · rename_i xs hk
      obtain ⟨us, ru, hu⟩ := m.at_ hk ea
      split at h
      · rename_i n hn
        split at h
        · rename_i y hy
          obtain ⟨z, hz, rz⟩ := Paired.get2 ru hy
          split at h
          · rename_i hj
            simp only [Bool.and_eq_true, decide_eq_true_eq] at hj
            exact ⟨a, us, _, n, z, rfl, rfl, hu, hj.1, hj.2, by rw [← Paired.len2 ru]; exact (ixN_seq hn).1, hz, holds.ok (a := y) h (m.put ea hk rfl rfl ⟨_, Paired.erase1 n ru, upd_same⟩) z rz⟩
          · exact h.elim
        · exact h.elim
      · exact h.elim
    · exact h.elim
  · exact h.elim
/-! texts -/
theorem strs_rv : ∀ ys : List Str, RVs ρ (ys.map W.str) (ys.map V.str)
  | [] => .nil
  | _ :: ys => .cons rfl (strs_rv ys)
def opSplit : OpM := fun w ws A => match w, ws with
  | .str x, [.str y] => if (!(y.length == 0) && sz (x.length + 2)) = true then newO (.lst ((Txt.split x y).map W.str)) A else .bad
  | _, _ => .bad
theorem p_split : PrimM g E (fun x xs H Q => ∃ a b, x = .str a ∧ xs = [.str b] ∧ (b.length == 0) = false ∧ a.length + 2 ≤ sizeLine ∧ rNewStrs (Txt.split a b) H Q) opSplit := by
  intro ρ A H w ws v vs Q m r rs h
  unfold opSplit at h
  split at h
  · obtain rfl := r
    obtain ⟨y0, rfl, rfl⟩ := RVs.one rs
    split at h
    · rename_i hh
      simp only [Bool.and_eq_true, Bool.not_eq_true'] at hh
      exact ⟨_, _, rfl, rfl, hh.1, sz_ok hh.2, fun p hp => newO_ok m rfl h hp ⟨_, (strs_rv _).ext ⟨[p], rfl⟩, upd_same⟩⟩
    · exact h.elim
  · exact h.elim
def opStrip : OpM := fun w ws A => match w, ws with
  | .str x, [.str y] => if sz x.length then .ok (.str (Txt.stripChars x y)) A else .bad
  | _, _ => .bad
theorem p_strip : PrimM g E (fun x xs H Q => ∃ a b, x = .str a ∧ xs = [.str b] ∧ a.length ≤ sizeLine ∧ Q (.str (Txt.stripChars a b)) H) opStrip := by
  intro ρ A H w ws v vs Q m r rs h
  unfold opStrip at h
  split at h
  · obtain rfl := r
    obtain ⟨y0, rfl, rfl⟩ := RVs.one rs
    split at h
    · rename_i hh
      exact ⟨_, _, rfl, rfl, sz_ok hh, holds.ok (a := W.str _) h m _ rfl⟩
    · exact h.elim
  · exact h.elim
def opPart : OpM := fun w ws A => match w, ws with
  | .str x, [.str y] => if (!(y.length == 0) && sz x.length) = true then newO (.tup [.str (Txt.partition x y).1, .str (Txt.partition x y).2.1, .str (Txt.partition x y).2.2]) A else .bad
  | _, _ => .bad
theorem p_part : PrimM g E (fun x xs H Q => ∃ a b, x = .str a ∧ xs = [.str b] ∧ (b.length == 0) = false ∧ a.length ≤ sizeLine ∧
    ∀ p, H p = none → Q (.ref p) (upd H p (.tup [.str (Txt.partition a b).1, .str (Txt.partition a b).2.1, .str (Txt.partition a b).2.2]))) opPart := by
  intro ρ A H w ws v vs Q m r rs h
  unfold opPart at h
  split at h
  · obtain rfl := r
    obtain ⟨y0, rfl, rfl⟩ := RVs.one rs
    split at h
    · rename_i hh
      simp only [Bool.and_eq_true, Bool.not_eq_true'] at hh
      exact ⟨_, _, rfl, rfl, hh.1, sz_ok hh.2, fun p hp => newO_ok m rfl h hp ⟨_, .cons rfl (.cons rfl (.cons rfl .nil)), upd_same⟩⟩
    · exact h.elim
  · exact h.elim
/-! d.get(k) -/
def isDict (A : Hs) : W → Bool
  | .ref k => match A[k]? with
    | some (.dK _) => true
    | _ => false
  | _ => false
def mGet (mo mk : ET) : ET := fun S A => (mo S A).bind fun wo A1 => if isDict A1 wo = true then (mk S A1).bind fun wk A2 => match dGet A2 wo wk with
  | some (some w) => .ok w A2
  | some none => .ok .non A2
  | none => .bad else .bad
theorem d_get {mk : ET} (hu : X.A.units + 1 < cLine) (ho : PE X o (rE g E mo)) (he : PE X e (rE g E mk)) (m : M1 X o "get" apos e cpos) : PE X (.Call (.Attribute o "get" apos) [e] [] cpos) (rE g E (mGet mo mk)) :=
  PE.imp (pe_dget1 hu ho he m) fun σ H Q ⟨ρ, S, A, at_, h⟩ => bindE at_ h fun ρ1 wo A1 x H1 e1 a1 r1 h1 => by
    split at h1
    · rename_i hd
      cases wo with
      | ref k =>
        obtain ⟨p, rfl, ep⟩ := r1
        have hd : (match A1[k]? with | some (.dK _) => true | _ => false) = true := hd
        split at hd
        · rename_i kvs hk
          obtain ⟨us, ru, hu⟩ := a1.m.at_ hk ep
          refine ⟨p, rfl, .inl ⟨us, .of hu⟩, bindE a1 h1 fun ρ2 wk A2 y H2 e2 a2 r2 h2 => ?_⟩
          have rp : RV ρ2 (.ref k) (.ref p) := ⟨p, rfl, e2.get ep⟩
          split at h2
          · rename_i w hw
            obtain ⟨q, ov, eq, _, hg, v, rfl, rv⟩ := dGet_of a2.m rp r2 hw
            cases eq
            exact ⟨some v, hg, holds.ok (a := w) h2 a2.m v rv⟩
          · rename_i hw
            obtain ⟨q, ov, eq, _, hg, hv⟩ := dGet_of a2.m rp r2 hw
            cases eq
            obtain rfl := hv
            exact ⟨none, hg, holds.ok (a := W.non) h2 a2.m _ rfl⟩
          · exact h2.elim
        · cases hd
      | _ => cases hd
    · exact h1.elim
/-! xs += ys -/
def opExt : Op2 := fun w1 w2 A => match w1, w2 with
  | .ref j, .ref k => match A[j]?, A[k]? with
    | some (.lst xs), some (.lst ys) => if sz (xs.length + ys.length) then .ok w1 (A.set j (.lst (xs ++ ys))) else .bad
    | _, _ => .bad
  | _, _ => .bad
theorem p_ext : Prim g E rExt2 opExt := by
  intro ρ A H w1 w2 v1 v2 Q m r1 r2 h
  unfold opExt at h
  split at h
  · obtain ⟨a, rfl, ea⟩ := r1
    obtain ⟨b, rfl, eb⟩ := r2
    split at h
    · rename_i xs ys h1 h2
      obtain ⟨us, ru, hu⟩ := m.at_ h1 ea
      obtain ⟨ws, rw_, hw⟩ := m.at_ h2 eb
      split at h
      · rename_i hs
        exact ⟨a, b, us, ws, rfl, rfl, hu, hw, by rw [← Paired.len2 ru, ← Paired.len2 rw_]; exact sz_ok hs, holds.ok (a := W.ref _) h (m.put ea h1 rfl rfl ⟨_, Paired.app2 ru rw_, upd_same⟩) _ ⟨a, rfl, ea⟩⟩
      · exact h.elim
    · exact h.elim
  · exact h.elim

/-! ## calls -/
/-- what a def does: on its arguments, on the heap -/
abbrev FnT := List W → Hs → Res W
def spOf (g : Gr) (n : Nat) (f : FnT) : Sp := fun vs H Q E => vs.length = n ∧ ∃ ρ ws A, RVs ρ ws vs ∧ M g ρ A H ∧ holds g ρ E (f ws A) (KE Q)
theorem spOf_len {n : Nat} {f : FnT} : ∀ vs H Q E, spOf g n f vs H Q E → vs.length = n := fun _ _ _ _ h => h.1
def mCallF (n : Nat) (f : FnT) (l : LT) : ET := fun S A => (l S A).bind fun ws A1 => if ws.length = n then f ws A1 else .bad
variable {CX : CXT} {k n : Nat} {f C : Addr} {fd : FuncData} {ps : List Str} {fn : FnT} {x m : Str} {p : Pos}
theorem callF_of {Q : VK} (h : rE g E (mCallF n fn ml) σ H Q) : tCall (spOf g n fn) [] E (rL g E ml) σ H Q := by
  obtain ⟨ρ, S, A, at_, h⟩ := h
  refine bindL at_ h fun ρ1 ws A1 xs H1 e1 a1 r1 h1 => ?_
  split at h1
  · rename_i hl
    rw [List.append_nil]
    exact ⟨by rw [← Paired.len2 r1]; exact hl, ρ1, ws, A1, r1, a1.m, h1⟩
  · exact h1.elim
theorem d_call (F : FnOk X.prog X.w X.K X.mg X.base CX k f fd ps (spOf g n fn)) (hr : Room k X.A) (hg : Gl X x) (hm : X.mg x = some (.ref f)) (hk : PySem.W.keepIn X.K (.ref f) = true) (hb : Binds X.K fd ps []) (hx : Passes CX X E)
    (ha : PA X (e :: es) (rL g E ml)) (hdb : (x == ("__debug__" : Str)) = false := by decide) (he : starEach (e :: es) X.env = (false, eval e X.env) :: starEach es X.env := by rfl) (hpl : (backTo pos (starEach es X.env)).any (·.1) = false := by rfl) :
    PE X (.Call (.Name x p) (e :: es) [] pos) (rE g E (mCallF n fn ml)) := PE.imp (pe_call F hr hg hm hk hb .nil hx ha hdb he hpl) fun _ _ _ h => callF_of h
/-- a method -/
def mCallM (c : Nat) (m : Str) (n : Nat) (f : FnT) (mo : ET) (l : LT) : ET := fun S A => (mo S A).bind fun w A1 => match insOf c A1 w with
  | some (_, fs) => match fs.lookup m with
    | none => (l S A1).bind fun ws A2 => if ws.length + 1 = n then f (w :: ws) A2 else .bad
    | some _ => .bad
  | none => .bad
theorem callM_of {c : Nat} {Q : VK} (h : rE g E (mCallM c m n fn mo ml) σ H Q) : tMeth (g.ga c) m (spOf g n fn) [] E (rE g E mo) (rL g E ml) σ H Q := by
  obtain ⟨ρ, S, A, at_, h⟩ := h
  refine bindE at_ h fun ρ1 w A1 x H1 e1 a1 r1 h1 => ?_
  split at h1
  · rename_i k fs hk
    obtain ⟨_, hA, a, dx, vs, rfl, ea, rv, hv⟩ := insOf_of a1.m r1 hk
    split at h1
    · rename_i hl
      refine ⟨a, dx, vs, rfl, hv, lookN rv hl, bindL a1 h1 fun ρ2 ws A2 xs H2 e2 a2 r2 h2 => ?_⟩
      split at h2
      · rename_i hn
        rw [List.append_nil]
        exact ⟨by rw [List.length_cons, ← Paired.len2 r2]; exact hn, ρ2, w :: ws, A2, .cons (r1.ext e2) r2, a2.m, h2⟩
      · exact h2.elim
    · exact h1.elim
  · exact h1.elim
theorem d_meth {c : Nat} {pl : Sem Bool} (ho : PE X o (rE g E mo)) (hC : Cls X.K (g.ga c)) (hm : Meth X.K (g.ga c) m f) (F : FnOk X.prog X.w X.K X.mg X.base CX k f fd ps (spOf g n fn)) (hr : Room k X.A) (hb : Binds X.K fd ps []) (hx : Passes CX X E) (ha : PA X (e :: es) (rL g E ml))
    (hst : starEach (e :: es) X.env = (false, eval e X.env) :: starEach es X.env := by rfl) (hpl : (backTo pos (starEach es X.env)).any (·.1) = false := by rfl)
    (ht : eval (.Call (.Attribute o m apos) (e :: es) [] pos) X.env = (do
      let ov ← eval o X.env
      standAt apos.atName
      let (f, first) ← holding [ov] (getMethod ov m pl)
      callWith pos f first (backTo pos (starEach (e :: es) X.env)) (backToKw pos (keywordEach [] X.env))) := by rfl) :
    PE X (.Call (.Attribute o m apos) (e :: es) [] pos) (rE g E (mCallM c m n fn mo ml)) := PE.imp (pe_meth ho hC hm F hr hb .nil hx ha hst hpl ht) fun _ _ _ h => callM_of h
theorem d_meth0 {c : Nat} {pl : Sem Bool} (ho : PE X o (rE g E mo)) (hC : Cls X.K (g.ga c)) (hm : Meth X.K (g.ga c) m f) (F : FnOk X.prog X.w X.K X.mg X.base CX k f fd ps (spOf g n fn)) (hr : Room k X.A) (hb : Binds X.K fd ps []) (hx : Passes CX X E)
    (ht : eval (.Call (.Attribute o m apos) [] [] pos) X.env = (do
      let ov ← eval o X.env
      standAt apos.atName
      let (f, first) ← holding [ov] (getMethod ov m pl)
      callWith pos f first (backTo pos (starEach [] X.env)) (backToKw pos (keywordEach [] X.env))) := by rfl) :
    PE X (.Call (.Attribute o m apos) [] [] pos) (rE g E (mCallM c m n fn mo mNil)) := PE.imp (pe_meth0 ho hC hm F hr hb .nil hx ht) fun σ H Q h => by
      obtain ⟨ρ, S, A, at_, h⟩ := callM_of h |> fun z => h
      have z := callM_of (m := m) (n := n) (fn := fn) (c := c) ⟨ρ, S, A, at_, h⟩
      obtain ⟨ρ', S', A', at', h'⟩ := z
      refine ⟨ρ', S', A', at', h'.imp fun ρ1 w A1 H1 e1 m1 hk v r => ?_⟩
      obtain ⟨a, dx, fs, ex, ea, hl, q⟩ := hk v r
      refine ⟨a, dx, fs, ex, ea, hl, ?_⟩
      obtain ⟨ρ2, S2, A2, at2, h2⟩ := q
      exact holds.ok (a := ([] : List W)) h2 at2.m [] .nil
/-- a new instance -/
def mMake (c : Nat) (n : Nat) (f : FnT) (l : LT) : ET := fun S A => (l S A).bind fun ws A1 => if ws.length + 1 = n then (f (.ref A1.length :: ws) (A1 ++ [.ins c []])).bind fun r A2 => match r with
  | .non => .ok (.ref A1.length) A2
  | _ => .bad else .bad
theorem make_of {c : Nat} {Q : VK} (h : rE g E (mMake c n fn ml) σ H Q) : tMake (g.ga c) (spOf g n fn) [] E (rL g E ml) σ H Q := by
  obtain ⟨ρ, S, A, at_, h⟩ := h
  refine bindL at_ h fun ρ1 ws A1 xs H1 e1 a1 r1 h1 => ?_
  split at h1
  · rename_i hn
    intro x dx hx hdx hne
    have m2 := a1.m.aside (o := .own x) hdx
    have hx2 : upd H1 dx (.own x) x = none := by rw [upd_ne (Ne.symm hne)]; exact hx
    have m3 := m2.push (ao := .ins c []) hx2 rfl ⟨dx, [], .nil, upd_same⟩
    rw [List.append_nil]
    have ex : Ext ρ1 (ρ1 ++ [x]) := ⟨[x], rfl⟩
    have rx : RV (ρ1 ++ [x]) (.ref A1.length) (.ref x) := ⟨x, rfl, by rw [← a1.m.len]; simp⟩
    refine ⟨by rw [List.length_cons, ← Paired.len2 r1]; exact hn, ρ1 ++ [x], _, _, .cons rx (r1.ext ex), m3, (holds.bind (h1.ext ex)).imp fun ρ2 r A2 H2 e2 m4 h2 v rv => ?_⟩
    split at h2
    · exact ⟨rv, holds.ok (a := W.ref _) h2 m4 _ (rx.ext e2)⟩
    · exact h2.elim
  · exact h1.elim
theorem d_make {c : Nat} (Mk_ : Mk X.K (g.ga c) f) (F : FnOk X.prog X.w X.K X.mg X.base CX k f fd ps (spOf g n fn)) (hr : Room (k + 1) X.A) (hg : Gl X x) (hm : X.mg x = some (.ref (g.ga c))) (hb : Binds X.K fd ps []) (hx : Passes CX X E)
    (ha : PA X (e :: es) (rL g E ml)) (hdb : (x == ("__debug__" : Str)) = false := by decide) (he : starEach (e :: es) X.env = (false, eval e X.env) :: starEach es X.env := by rfl) (hpl : (backTo pos (starEach es X.env)).any (·.1) = false := by rfl) :
    PE X (.Call (.Name x p) (e :: es) [] pos) (rE g E (mMake c n fn ml)) := PE.imp (pe_make Mk_ F hr hg hm hb .nil hx ha hdb he hpl) fun _ _ _ h => make_of h
theorem d_make0 {c : Nat} (Mk_ : Mk X.K (g.ga c) f) (F : FnOk X.prog X.w X.K X.mg X.base CX k f fd ps (spOf g n fn)) (hr : Room (k + 1) X.A) (hg : Gl X x) (hm : X.mg x = some (.ref (g.ga c))) (hb : Binds X.K fd ps []) (hx : Passes CX X E)
    (hdb : (x == ("__debug__" : Str)) = false := by decide) : PE X (.Call (.Name x p) [] [] pos) (rE g E (mMake c n fn mNil)) := PE.imp (pe_make0 Mk_ F hr hg hm hb .nil hx hdb) fun σ H Q h => by
      obtain ⟨ρ, S, A, at_, hh⟩ := make_of h
      exact holds.ok (a := ([] : List W)) hh at_.m [] .nil
/-! ## raise -/
def mRaise (c : Nat) : ST := fun _ A => .exc c A
theorem d_raise {c : Nat} {m : Str} {j : Nat} {p2 rpos : Pos} (hc : X.calm = true) (tk : Takes X (fun cls d _ H => E cls d H)) (q : PySem.W.excIn X.K (g.ga c) He.veBase "ValueError.__new__" = true) (kC : PySem.W.keepIn X.K (.ref (g.ga c)) = true) (h1 : PySem.W.subIn X.K (.ref (g.ga c)) (.type "BaseException") = some true)
    (h2 : PySem.W.typeIn X.K (.ref (g.ga c)) = some (.type "type")) (hg : Gl X x) (gC : X.mg x = some (.ref (g.ga c))) (hdb : (x == ("__debug__" : Str)) = false := by decide) : PS X (.Raise (some (.Call (.Name x p) [.Constant (.str m) j p2] [] pos)) none rpos) (rS g E (mRaise c)) :=
  PS.imp (ps_raise hc tk (pmk_own PySem.F.excBase_ValueError q gC kC (raises_own h1 h2) hg hdb)) fun D σ H ⟨ρ, S, A, at_, h⟩ => h ρ H (Ext.refl _) at_.m
end
end K33
namespace K33
open PySem PySem.Spec PyProof.Rows L2
/-! ## a generator expression within a generator expression: the readings -/
/-- the ground, where an outer generator expression runs by the code object c' -/
structure NestGr (g : Gr) (P : Addr) (g' : Addr → Addr → Gr) : Prop where
  get : ∀ {H : Hp}, g.J H → NestG P H
  up : ∀ {ρ : List Addr} {A : Hs} {H1 H2 : Hp} {c' P' : Addr}, M g ρ A H1 → (∀ (k : Nat) (ps : Array Value), A[k]? ≠ some (AO.raw (.tbl ps))) → Nested P c' P' H1 H2 → M (g' c' P') ρ A H2
  down : ∀ {ρ : List Addr} {A : Hs} {H : Hp} {c' P' : Addr}, M (g' c' P') ρ A H → M g ρ A H
  ga : ∀ c' P', (g' c' P').ga = g.ga
  tab : ∀ c' P', P' ∈ (g' c' P').tabs
  code : ∀ {c' P' : Addr} {H : Hp}, (g' c' P').J H → H c' = some (CodeHO c' P')
def isTbl : AO → Bool
  | .raw (.tbl _) => true
  | _ => false
theorem noTbl {A : Hs} (h : A.any isTbl = false) : ∀ (k : Nat) (ps : Array Value), A[k]? ≠ some (AO.raw (.tbl ps)) := fun k ps e => by
  have := List.any_eq_false.mp h _ (List.mem_of_getElem? e)
  exact this rfl
def mGxN (c : Con) (fuel : Nat) (mi : SrcT) (t : Tg) (vs : List Nat) (bt : BT) (me : ET) : ET := fun S A => (mi S A).bind fun s A1 => if A1.any isTbl = true then .bad else loopN (fun _ _ _ => .bad) (gx1Step c s t (wipeW S vs) bt me) fuel 0 0 A1
section
variable {X : Cx} {g : Gr} {E : XK} {ρ : List Addr} {S : Slots} {A : Hs} {σ : L2.St} {H : Hp} {α β : Type}
theorem holds.down {P c' P' : Addr} {g' : Addr → Addr → Gr} (N : NestGr g P g') {r : Res α} {K : List Addr → α → Hs → Hp → Prop} (h : holds g ρ E r K) : holds (g' c' P') ρ E r K := by
  cases r with
  | ok a A => exact fun ρ' H' e m => h ρ' H' e (N.down m)
  | exc c A =>
    intro ρ' H' e m
    have z := h ρ' H' e (N.down m)
    rw [N.ga]
    exact z
  | bad => exact h
theorem gxN_of {K : PySem.W.Frag} {c : Con} {P : Addr} {g' : Addr → Addr → Gr} (N : NestGr g P g') {fuel : Nat} {mi : SrcT} {t : Tg} {vs : List Nat} {bt : BT} {me : ET} {Q : VK} (hv : ∀ i ∈ t.ix, i ∈ vs) (h : rE g E (mGxN c fuel mi t vs bt me) σ H Q) :
    tGxN P (rI g E mi) (gT K t) (fun c' P' => rB (g' c' P') noE bt) (fun c' P' => rE (g' c' P') noE me) vs σ H (c.yd Q) (c.en Q) := by
  obtain ⟨ρ, S, A, a, h⟩ := h
  refine ⟨ρ, S, A, a, (holds.bind h).imp fun ρ1 s A1 H1 e1 m1 h1 J hJ => ⟨N.get m1.inv, fun H2 c' P' hH2 => ?_⟩⟩
  split at h1
  · exact h1.elim
  rename_i hno
  have m2 := N.up m1 (noTbl (by simpa using hno)) hH2
  have h1 := holds.down (c' := c') (P' := P') N h1
  show Gx1 J (gT K t) (rB (g' c' P') noE bt) (rE (g' c' P') noE me) vs (wipe σ vs) (c.yd Q) (c.en Q) H2
  generalize g' c' P' = g2 at m2 h1 ⊢
  refine ⟨fun i n k H => ∃ ρ3 A3, Ext ρ1 ρ3 ∧ M g2 ρ3 A3 H ∧ holds g2 ρ3 E (loopN (fun _ _ _ => .bad) (gx1Step c s t (wipeW S vs) bt me) n i k A3) (KE Q), ⟨fuel, ρ1, A1, Ext.refl _, m2, h1⟩, ?_⟩
  rintro i n k H ⟨ρ3, A3, e3, m3, h3⟩
  cases n with
  | zero => exact h3.elim
  | succ n =>
    have h3 : holds g2 ρ3 E (gx1Step c s t (wipeW S vs) bt me (loopN (fun _ _ _ => .bad) (gx1Step c s t (wipeW S vs) bt me) n) i k A3) (KE Q) := h3
    have w3 := (hJ g2).ext e3
    unfold gx1Step at h3
    split at h3
    · exact h3.elim
    · rename_i hx
      exact .inl ⟨w3.stop ρ3 A3 H i (Ext.refl _) m3 hx, fin_of m3 h3⟩
    · rename_i w A4 hx
      obtain ⟨go, yl⟩ := w3.item ρ3 A3 H i w A4 (Ext.refl _) m3 hx
      refine .inr ⟨go, fun k' H' => ∃ ρ3 A3, Ext ρ1 ρ3 ∧ M g2 ρ3 A3 H' ∧ holds g2 ρ3 E (loopN (fun _ _ _ => .bad) (gx1Step c s t (wipeW S vs) bt me) n (i + 1) k' A3) (KE Q), fun k' H' q => ⟨n, Nat.lt_succ_self n, q⟩, fun x H' hy => ?_⟩
      obtain ⟨ρ4, e4, m4, r4⟩ := yl x H' hy
      split at h3
      · exact h3.elim
      · rename_i S1 hS
        have sw : SR ρ4 (wipeW S vs) (wipe σ vs) := (((a.s.ext e1).ext e3).ext e4).wipe vs
        obtain ⟨σ1, s1, k1, k2⟩ := put_of (K := K) m4 sw r4 hS
        refine k1 _ ⟨(k2 vs hv).trans wipe_wipe, ?_⟩
        refine bindBX (E := E) ⟨s1, m4⟩ (h3.ext e4) fun ρ5 b A5 H5 e5 a5 h5 => ?_
        cases b with
        | false => exact ⟨ρ5, A5, (e3.trans e4).trans e5, a5.m, h5⟩
        | true =>
          rw [if_pos rfl] at h5 ⊢
          refine bindEX (E := E) a5 h5 fun ρ6 w A6 y H6 e6 a6 r6 h6 => ?_
          exact eat_of a6.m r6 h6 fun k' h7 => ⟨ρ6, A6, ((e3.trans e4).trans e5).trans e6, a6.m, h7⟩
theorem gxD_of {K : PySem.W.Frag} {c : Con} {cc P : Addr} {fuel : Nat} {mi : SrcT} {t : Tg} {vs : List Nat} {bt : BT} {me : ET} {Q : VK} (hP : P ∈ g.tabs) (hc : ∀ {H : Hp}, g.J H → H cc = some (CodeHO cc P)) (hv : ∀ i ∈ t.ix, i ∈ vs) (h : rE g E (mGx1 c fuel mi t vs bt me) σ H Q) :
    tGxD cc P (rI g E mi) (gT K t) (rB g noE bt) (rE g noE me) vs σ H (c.yd Q) (c.en Q) := by
  obtain ⟨ρ, S, A, a, h⟩ := gx1_of (K := K) hP hv h
  exact ⟨ρ, S, A, a, h.imp fun ρ1 s A1 H1 e1 m1 h1 J hJ => ⟨hc m1.inv, h1 J hJ⟩⟩
variable {c P P0 : Addr} {el tg it0 : Expr} {cs : List Expr} {sc : Scope} {p pn p2 : Pos} {own : List (Str × Nat)} {k fuel : Nat} {mi mi1 : SrcT} {t t1 : Tg} {bt bt1 : BT} {me : ET}
theorem d_gxN {g' : Addr → Addr → Gr} {cn : Con} (hg : Gl X (conName cn)) (hm : X.mg (conName cn) = none) (G : GxOk X c P sc own k) (N : NestGr g P g') (hv : ∀ i ∈ t.ix, i ∈ own.map (·.2)) (hi : PI X tg it0 (rI g E mi)) (hs : ∀ v, genFold it0 X.env v = pure v)
    (hgt : ∀ c' s H cl C A' fp pn, Room k A' → PG (genY X sc s H cl C (.ref c') A' fp pn) tg (gT X.K t)) (ht : ∀ c' P' s H cl C A' fp pn, Room k A' → PTs (genY X sc s H cl C (.ref c') A' fp pn) cs (rB (g' c' P') noE bt)) (he : ∀ c' P' s H cl C A' fp pn, Room k A' → PE (genY X sc s H cl C (.ref c') A' fp pn) el (rE (g' c' P') noE me)) :
    PE X (.Call (.Name (conName cn) pn) [.GeneratorExp el [⟨tg, it0, cs, 0⟩] sc p] [] p2) (rE g E (mGxN cn fuel mi t (own.map (·.2)) bt me)) := by
  have px := px_1n (p := p) G hi hs hgt ht he
  have r1 : Room 1 X.A := G.room.mono (by omega)
  cases cn with
  | any => exact PE.imp (pe_anyG r1 hg hm px) fun _ _ _ h => gxN_of (c := .any) N hv h
  | all => exact PE.imp (pe_allG r1 hg hm px) fun _ _ _ h => gxN_of (c := .all) N hv h
  | sum => exact PE.imp (pe_sumG r1 hg hm px) fun _ _ _ h => gxN_of (c := .sum) N hv h
theorem d_gxD {cn : Con} (hg : Gl X (conName cn)) (hm : X.mg (conName cn) = none) (G : GxOkD X c P0 sc own k) (hP : P ∈ g.tabs) (hc : ∀ {H : Hp}, g.J H → H c = some (CodeHO c P)) (hv : ∀ i ∈ t.ix, i ∈ own.map (·.2)) (hi : PI X tg it0 (rI g E mi)) (hs : ∀ v, genFold it0 X.env v = pure v)
    (hgt : ∀ s H cl C cv A' fp pn, Room k A' → PG (genY X sc s H cl C cv A' fp pn) tg (gT X.K t)) (ht : ∀ s H cl C cv A' fp pn, Room k A' → PTs (genY X sc s H cl C cv A' fp pn) cs (rB g noE bt)) (he : ∀ s H cl C cv A' fp pn, Room k A' → PE (genY X sc s H cl C cv A' fp pn) el (rE g noE me)) :
    PE X (.Call (.Name (conName cn) pn) [.GeneratorExp el [⟨tg, it0, cs, 0⟩] sc p] [] p2) (rE g E (mGx1 cn fuel mi t (own.map (·.2)) bt me)) := by
  have px := px_1d (p := p) (P := P) G hi hs hgt ht he
  have r1 : Room 1 X.A := G.room.mono (by omega)
  cases cn with
  | any => exact PE.imp (pe_anyG r1 hg hm px) fun _ _ _ h => gxD_of (c := .any) hP hc hv h
  | all => exact PE.imp (pe_allG r1 hg hm px) fun _ _ _ h => gxD_of (c := .all) hP hc hv h
  | sum => exact PE.imp (pe_sumG r1 hg hm px) fun _ _ _ h => gxD_of (c := .sum) hP hc hv h
end
/-! ## this program's ground: one table whose code objects have their own -/
def NestOk (tabs : List Addr) (P : Addr) (H : Hp) : Prop := P ∉ tabs ∧ NestG P H
section
variable {P : Addr} {H H' : Hp}
theorem NestG.keep (h : NestG P H) (k : ∀ b o, H b = some o → (b = P ∨ (∃ c q, o = CodeHO c q) ∨ ∃ ps, o = .tbl ps) → (b = P → H' b = some o) ∧ ((∃ c q, o = CodeHO c q) → H' b = some o) ∧ ((∃ ps, o = .tbl ps) → GxR.TabG H b → GxR.TabG H' b)) : NestG P H' := by
  obtain ⟨ps, e, t, a⟩ := h
  refine ⟨ps, (k P _ e (.inl rfl)).1 rfl, t, fun pos cv hc => ?_⟩
  obtain ⟨c', P', e1, e2, e3, e4⟩ := a pos cv hc
  obtain ⟨qs, e5, e6⟩ := id e3
  exact ⟨c', P', e1, (k c' _ e2 (.inr (.inl ⟨_, _, rfl⟩))).2.1 ⟨_, _, rfl⟩, (k P' _ e5 (.inr (.inr ⟨_, rfl⟩))).2.2 ⟨_, rfl⟩ e3, e4⟩
theorem NestG.new {p : Addr} {o : HO} (h : NestG P H) (hp : H p = none) : NestG P (upd H p o) := h.keep fun b u e _ => by
  have q : upd H p o b = some u := by rw [upd_ne (ne_of_none e hp)]; exact e
  exact ⟨fun _ => q, fun _ => q, fun _ ⟨ps, e1, e2⟩ => ⟨ps, by rw [upd_ne (ne_of_none e hp)]; exact e1, e2⟩⟩
theorem NestG.plain {a : Addr} {u o : HO} (h : NestG P H) (ha : H a = some u) (hu : plainO u = true) : NestG P (upd H a o) := by
  obtain ⟨ps0, eP, _⟩ := id h
  have nP : P ≠ a := fun z => by
    rw [z, ha] at eP
    cases eP; cases hu
  refine h.keep fun b v e hv => ?_
  by_cases hb : b = a
  · subst hb
    rw [ha] at e; cases e
    refine ⟨fun z => absurd z.symm nP, fun ⟨c, q, z⟩ => ?_, fun ⟨ps, z⟩ => ?_⟩
    · rw [z] at hu; cases hu
    · rw [z] at hu; cases hu
  · have q : upd H a o b = some v := by rw [upd_ne hb]; exact e
    exact ⟨fun _ => q, fun _ => q, fun _ ⟨ps, e1, e2⟩ => ⟨ps, by rw [upd_ne hb]; exact e1, e2⟩⟩
theorem NestG.tabbed {Q : Addr} (h : NestG P H) (hq : GxR.TabG H Q) (hne : P ≠ Q) (t : GxR.Tabbed Q H H') : NestG P H' := by
  obtain ⟨qs, eQ, _⟩ := hq
  refine h.keep fun b v e hv => ⟨fun z => ?_, fun ⟨c, q, z⟩ => ?_, fun ⟨ps, z⟩ tb => ?_⟩
  · rw [t.2 b (by rw [z]; exact hne)]; exact e
  · rw [t.2 b fun y => by rw [y, eQ] at e; cases e; cases z]; exact e
  · by_cases hb : b = Q
    · rw [hb]; exact t.1
    · obtain ⟨rs, e1, e2⟩ := tb
      exact ⟨rs, by rw [t.2 b hb]; exact e1, e2⟩
end
/-- the ground of a program: its classes, tables, and the one table P -/
def mkG (ga : Nat → Addr) (tabs : List Addr) (P : Addr) : Gr where
  ga := ga
  tabs := tabs
  J := NestOk tabs P
  jn := fun h hp => ⟨h.1, h.2.new hp⟩
  jp := fun h ha hu => ⟨h.1, h.2.plain ha hu⟩
  jt := fun hP h hq t => ⟨h.1, h.2.tabbed hq (fun z => h.1 (z ▸ hP)) t⟩
  nest := [P]
/-- .. where the code object c' with the table P' runs -/
def mkG2 (ga : Nat → Addr) (tabs : List Addr) (P c' P' : Addr) : Gr where
  ga := ga
  tabs := P' :: tabs
  J := fun H => NestOk tabs P H ∧ P' ≠ P ∧ H c' = some (CodeHO c' P')
  jn := fun h hp => ⟨⟨h.1.1, h.1.2.new hp⟩, h.2.1, by rw [upd_ne (ne_of_none h.2.2 hp)]; exact h.2.2⟩
  jp := fun {H a u o} h ha hu => ⟨⟨h.1.1, h.1.2.plain ha hu⟩, h.2.1, by
    rw [upd_ne fun z => by
      have e := h.2.2
      rw [z, ha] at e
      cases e
      cases hu]
    exact h.2.2⟩
  jt := fun {H H' Q} hQ h hq t => by
    have nQ : P ≠ Q := fun z => by
      rcases List.mem_cons.mp hQ with y | y
      · exact h.2.1 (y.symm.trans z.symm)
      · exact h.1.1 (z ▸ y)
    refine ⟨⟨h.1.1, h.1.2.tabbed hq nQ t⟩, h.2.1, ?_⟩
    rw [t.2 c' fun z => by
      obtain ⟨qs, e, _⟩ := hq
      have e2 := h.2.2
      rw [z, e] at e2
      cases e2]
    exact h.2.2
  nest := [P]
theorem nestGr {ga : Nat → Addr} {tabs : List Addr} {P : Addr} : NestGr (mkG ga tabs P) P (mkG2 ga tabs P) where
  get := fun h => h.2
  up := fun {ρ A H1 H2 c' P'} m hno n => by
    have at_ : ∀ a ∈ ρ, H2 a = H1 a := fun a ha => by
      obtain ⟨k, hk, ek⟩ := List.getElem_of_mem ha
      have ek' : ρ[k]? = some a := by rw [List.getElem?_eq_getElem hk, ek]
      obtain ⟨u, hu⟩ := m.live ek'
      rw [hu]
      refine n.keep a u (fun z => ?_) hu
      obtain ⟨ps, eP, _⟩ := m.inv.2
      have hk' : k < A.length := by rw [← m.len]; exact hk
      have r := m.obj k a _ ek' (List.getElem?_eq_getElem hk')
      rw [z] at r
      cases ho : A[k] with
      | lst xs => rw [ho] at r; obtain ⟨_, _, z⟩ := r; rw [eP] at z; cases z
      | tup xs => rw [ho] at r; obtain ⟨_, _, z⟩ := r; rw [eP] at z; cases z
      | dK xs => rw [ho] at r; obtain ⟨_, _, z⟩ := r; rw [eP] at z; cases z
      | dT0 => rw [ho] at r; have z : H1 P = some (.dT []) := r; rw [eP] at z; cases z
      | ins c fs => rw [ho] at r; obtain ⟨_, _, _, z⟩ := r; rw [eP] at z; cases z
      | raw o =>
        rw [ho] at r
        have z : H1 P = some o := r
        rw [eP] at z
        exact hno k ps (by rw [List.getElem?_eq_getElem hk', ho, Option.some.inj z])
    refine ⟨m.nd, m.len, fun k a o e h => (m.obj k a o e h).at_ (at_ a (List.mem_of_getElem? e)), fun Q hQ => ?_, fun k a ps e h => absurd h (hno k ps), ⟨⟨m.inv.1, n.nest⟩, n.ne, n.code⟩⟩
    rcases List.mem_cons.mp hQ with rfl | hQ
    · exact n.tab
    · obtain ⟨qs, e, t⟩ := m.tab Q hQ
      exact ⟨qs, n.keep Q _ (fun z => m.inv.1 (z ▸ hQ)) e, t⟩
  down := fun {ρ A H c' P'} m => ⟨m.nd, m.len, fun k a o e h => by
      have r := m.obj k a o e h
      cases o <;> exact r, fun Q hQ => m.tab Q (List.mem_cons_of_mem _ hQ), fun k a ps e h => by
      obtain ⟨h1, h2⟩ := m.nt k a ps e h
      exact ⟨fun z => h1 (List.mem_cons_of_mem _ z), h2⟩, m.inv.1⟩
  ga := fun _ _ => rfl
  tab := fun _ _ => List.mem_cons_self
  code := fun h => h.2.2
end K33
namespace K33
open PySem PySem.Spec PyProof.Rows L2
/-! ## what is lacking yet of the language: a sign before a number, an empty dict walked, a text's signs exchanged -/
def mNeg (m : ET) : ET := fun S A => (m S A).bind fun w A1 => match w with
  | .int i => .ok (.int (-i)) A1
  | _ => .bad
def mForD0 (c i : Nat) (f : Str) : ST := fun S A => match S[i]? with
  | some (some w) => match insOf c A w with
    | some (_, fs) => match fs.lookup f with
      | some (.ref k) => match A[k]? with
        | some (.dK []) => .ok (.nx S) A
        | _ => .bad
      | _ => .bad
    | none => .bad
  | _ => .bad
def opRepl : OpM := fun w ws A => match w, ws with
  | .str x, [.str y, .str z] => if (decide (x.length + (x.length + 1) * z.length ≤ 16777216) && !(y == z)) = true then .ok (.str (Txt.replace x y z)) A else .bad
  | _, _ => .bad
/-! ## a def's reading -/
def startW (n : Nat) (ws : List W) : Slots := ws.map some ++ List.replicate (n - ws.length) none
def fin (r : Res Fl) : Res W := match r with
  | .ok (.rt w) A => .ok w A
  | .ok (.nx _) A => .ok .non A
  | .exc c A => .exc c A
  | .bad => .bad
end K33
namespace K33
open PySem PySem.Spec PyProof.Rows L2
def k_check_list : FnT := fun ws A => fin ((mSeq (mAsg (mCall opTuple (mCons (mVar 0) mNil)) (.nm 2)) (mSeq (mIfS (mIsB (mBin (opEq true) (mCall opLen (mCons (mCall opDict (mCons (mLc 24 (mWT (mVar 2)) (.nm 3) [3] mYes (mTup (mCons (mVar 3) (mCons (mC (.int 1)) mNil)))) mNil)) mNil)) (mCall opLen (mCons (mVar 2) mNil)))) (mSeq (mRaise 1) mNext) mNext) (mSeq (mIfS (mIsB (mGx1 .any 24 (mWT (mVar 2)) (.nm 3) [3] mYes (mNotV (mChain (opCmp fun i j => decide (i ≤ j)) (opCmp fun i j => decide (i < j)) (mC (.int 0)) (mVar 3) (mVar 1))))) mNo mNext) (mSeq (mRet (mVar 2)) mNext)))) (startW 4 ws) A)
def k_check_groups : FnT := fun ws A => fin ((mSeq (mAsg (mCall opTuple (mCons (mLc 24 (mWL (mVar 0)) (.nm 3) [3] mYes (mCall opTuple (mCons (mCall opSorted (mCons (mVar 3) mNil)) mNil))) mNil)) (.nm 2)) (mSeq (mIfS (mIsB (mGx1 .any 24 (mWT (mVar 2)) (.nm 3) [3] mYes (mBin (opEq false) (mVar 3) (mTup mNil)))) mNo mNext) (mSeq (mDrop (mCallF 2 k_check_list (mCons (mLc2 24 (mWT (mVar 2)) (.nm 3) [3, 4] mYes (mWT (mVar 3)) (.nm 4) [4] mYes (mVar 4)) (mCons (mVar 1) mNil)))) (mSeq (mRet (mVar 2)) mNext)))) (startW 5 ws) A)
def k_broken : FnT := fun ws A => fin ((mSeq (mAsg (mCall opDict (mCons (mLc 24 (mWEL (mCons (mVar 1) mNil)) (.tp [6, 5]) [6, 5] mYes mNo) mNil)) (.nm 2)) (mSeq (mIfS (mIsB (mGx2 .any 24 (mWL (mVar 0)) (.nm 4) [4, 5] mYes (mWT (mVar 4)) (.nm 5) [5] mYes (mBin (opDIn true) (mVar 5) (mVar 2)))) (mSeq (mRaise 1) mNext) mNext) mNo)) (startW 7 ws) A)
def k_group_ranks : FnT := fun ws A => fin ((mSeq (mRet (mCall opDict (mCons (mLc2 24 (mWET (mCons (mVar 0) mNil)) (.tp [2, 3]) [2, 3, 1] mYes (mWT (mVar 3)) (.nm 1) [1] mYes (mTup (mCons (mVar 1) (mCons (mVar 2) mNil)))) mNil))) mNext) (startW 4 ws) A)
def k_all_lists : FnT := fun ws A => fin ((mSeq (mIfS (mIsB (mBin (opCmp fun i j => decide (j < i)) (mVar 0) (mC (.int 5)))) (mSeq (mRaise 5) mNext) mNext) mNo) (startW 6 ws) A)
def k_Market_size : FnT := fun ws A => fin ((mSeq (mRet (mCall opLen (mCons (mFld 11 "askers" (mVar 0)) mNil))) mNext) (startW 1 ws) A)
def k_check_match : FnT := fun ws A => fin ((mSeq (mAsg (mCall opTuple (mCons (mVar 1) mNil)) (.nm 2)) (mSeq (mIfS (mOr (mIsB (mBin (opEq true) (mCall opLen (mCons (mVar 2) mNil)) (mCallM 11 "size" 1 k_Market_size (mVar 0) mNil))) (mIsB (mGx1 .any 24 (mWT (mVar 2)) (.nm 3) [3] mYes (mAndV (mBin (opIsN true) (mVar 3) (mC .non)) (mNotV (mChain (opCmp fun i j => decide (i ≤ j)) (opCmp fun i j => decide (i < j)) (mC (.int 0)) (mVar 3) (mCall opLen (mCons (mFld 11 "rooms" (mVar 0)) mNil)))))))) (mSeq (mRaise 3) mNext) mNext) (mSeq (mFor 24 (mWET (mCons (mFld 11 "seats" (mVar 0)) mNil)) (.tp [3, 4]) (mSeq (mIfS (mIsB (mBin (opCmp fun i j => decide (j < i)) (mCall opLen (mCons (mLc 24 (mWT (mVar 2)) (.nm 5) [5] (mIsB (mBin (opEq false) (mVar 5) (mVar 3))) (mVar 5)) mNil)) (mVar 4))) (mSeq (mRaise 3) mNext) mNext) mNext)) (mSeq (mRet (mVar 2)) mNext)))) (startW 6 ws) A)
def k_those_in : FnT := fun ws A => fin ((mSeq (mRet (mCall opTuple (mCons (mLc 24 (mWET (mCons (mVar 0) mNil)) (.tp [2, 3]) [2, 3] (mIsB (mBin (opEq false) (mVar 3) (mVar 1))) mNo) mNil))) mNext) (startW 4 ws) A)
def k_unwanted : FnT := fun ws A => fin ((mSeq (mRet (mCall opTuple (mCons (mLc 24 (mWET (mCons (mVar 1) mNil)) (.tp [2, 3]) [2, 3] (mAnd (mIsB (mBin (opIsN true) (mVar 3) (mC .non))) mNo) mNo) mNil))) mNext) (startW 4 ws) A)
def k_Wish_has : FnT := fun ws A => fin ((mSeq (mRet (mBin (opDIn false) (mVar 1) (mFld 10 "ranks" (mVar 0)))) mNext) (startW 2 ws) A)
def k_would_take : FnT := fun ws A => fin ((mSeq (mIfS (mOr (mNot (mIsB (mCallM 10 "has" 2 k_Wish_has (mBin opIx (mFld 11 "rooms" (mVar 0)) (mVar 2)) (mCons (mVar 3) mNil)))) (mIsB (mBin (opEq false) (mBin opIx (mFld 11 "seats" (mVar 0)) (mVar 2)) (mC (.int 0))))) mNo mNext) (mSeq (mAsg (mCallF 2 k_those_in (mCons (mVar 1) (mCons (mVar 2) mNil))) (.nm 4)) (mSeq (mIfS (mIsB (mBin (opCmp fun i j => decide (i < j)) (mCall opLen (mCons (mVar 4) mNil)) (mBin opIx (mFld 11 "seats" (mVar 0)) (mVar 2)))) (mSeq (mRet (mC (.bl true))) mNext) mNext) mNo))) (startW 6 ws) A)
def k_Wish_rank : FnT := fun ws A => fin ((mSeq (mRet (mIf (mIsB (mBin (opIsN false) (mVar 1) (mC .non))) (mCall opLen (mCons (mFld 10 "order" (mVar 0)) mNil)) (mGet (mFld 10 "ranks" (mVar 0)) (mVar 1)))) mNext) (startW 2 ws) A)
def k_Wish_ahead_of : FnT := fun ws A => fin ((mSeq (mAsg (mCallM 10 "rank" 2 k_Wish_rank (mVar 0) (mCons (mVar 1) mNil)) (.nm 2)) (mSeq (mRet (mIf (mIsB (mBin (opIsN false) (mVar 2) (mC .non))) mNo (mSl (mFld 10 "order" (mVar 0)) mNoPart (mPart (mVar 2))))) mNext)) (startW 3 ws) A)
def k_blocks : FnT := fun ws A => fin ((mSeq (mAsg (mLst mNil) (.nm 2)) (mSeq (mFor 24 (mWEL (mCons (mFld 11 "askers" (mVar 0)) mNil)) (.tp [3, 4]) (mSeq (mFor 24 (mWT (mCallM 10 "ahead_of" 2 k_Wish_ahead_of (mVar 4) (mCons (mBin opIx (mVar 1) (mVar 3)) mNil))) (.nm 5) (mSeq (mIfS (mAnd (mIsB (mBin (opEq true) (mVar 5) (mBin opIx (mVar 1) (mVar 3)))) (mIsB (mCallF 4 k_would_take (mCons (mVar 0) (mCons (mVar 1) (mCons (mVar 5) (mCons (mVar 3) mNil))))))) (mSeq (mDrop (mMeth isLst opAppend (mVar 2) (mCons (mTup (mCons (mVar 3) (mCons (mVar 5) mNil))) mNil))) mNext) mNext) mNext)) mNext)) (mSeq (mRet (mCall opTuple (mCons (mVar 2) mNil))) mNext))) (startW 6 ws) A)
def k_is_stable : FnT := fun ws A => fin ((mSeq (mDrop (mCallF 2 k_check_match (mCons (mVar 0) (mCons (mVar 1) mNil)))) (mSeq (mRet (mAndV (mBin (opEq false) (mCallF 2 k_unwanted (mCons (mVar 0) (mCons (mVar 1) mNil))) (mTup mNil)) (mBin (opEq false) (mCallF 2 k_blocks (mCons (mVar 0) (mCons (mVar 1) mNil))) (mTup mNil)))) mNext)) (startW 2 ws) A)
def k_check_words : FnT := fun ws A => fin ((mSeq (mAsg (mCall opTuple (mCons (mVar 0) mNil)) (.nm 1)) (mSeq (mIfS (mIsB (mBin (opEq true) (mCall opLen (mCons (mCall opDict (mCons (mLc 24 (mWT (mVar 1)) (.nm 2) [2] mYes (mTup (mCons (mVar 2) (mCons (mC (.int 1)) mNil)))) mNil)) mNil)) (mCall opLen (mCons (mVar 1) mNil)))) (mSeq (mRaise 1) mNext) mNext) (mSeq (mRet (mVar 1)) mNext))) (startW 3 ws) A)
def k_parts : FnT := fun ws A => fin ((mSeq (mPar (mCons (mLst mNil) (mCons mDNew mNil)) [2, 3]) (mSeq (mFor 24 (mWL (mCall opSorted (mCons (mVar 0) mNil))) (.nm 1) (mSeq (mIfS (mIsB (mBin (opDIn true) (mVar 1) (mVar 3))) (mSeq (mPar (mCons (mLst mNil) (mCons (mLst (mCons (mVar 1) mNil)) mNil)) [4, 5]) (mSeq (mPutD (mC (.int 1)) (mVar 3) (mVar 1)) (mSeq (mWhile 24 (mIsB (mBin (opEq true) (mVar 5) (mLst mNil))) (mSeq (mAsg (mMeth isLst opPop (mVar 5) mNil) (.nm 6)) (mSeq (mDrop (mMeth isLst opAppend (mVar 4) (mCons (mVar 6) mNil))) (mSeq (mFor 24 (mWL (mBin opDIx (mVar 0) (mVar 6))) (.nm 7) (mSeq (mIfS (mIsB (mBin (opDIn true) (mVar 7) (mVar 3))) (mSeq (mPutD (mC (.int 1)) (mVar 3) (mVar 7)) (mSeq (mDrop (mMeth isLst opAppend (mVar 5) (mCons (mVar 7) mNil))) mNext)) mNext) mNext)) mNext)))) (mSeq (mDrop (mMeth isLst opAppend (mVar 2) (mCons (mCall opTuple (mCons (mCall opSorted (mCons (mVar 4) mNil)) mNil)) mNil))) mNext)))) mNext) mNext)) (mSeq (mRet (mCall opTuple (mCons (mVar 2) mNil))) mNext))) (startW 8 ws) A)
def k_Friends_without : FnT := fun ws A => fin ((mSeq (mAsg (mLc 24 (mWR1 (mCons (mFld 13 "count" (mVar 0)) mNil)) (.nm 3) [3] (mIsB (mBin (opIn true) (mVar 3) (mVar 1))) (mVar 3)) (.nm 2)) (mSeq (mRet (mCall opDict (mCons (mLc 24 (mWL (mVar 2)) (.nm 3) [3] mYes (mTup (mCons (mVar 3) (mCons (mLc 24 (mWL (mBin opIx (mFld 13 "near" (mVar 0)) (mVar 3))) (.nm 4) [4] (mIsB (mBin (opIn true) (mVar 4) (mVar 1))) (mVar 4)) mNil)))) mNil))) mNext)) (startW 5 ws) A)
def k_odd_parts : FnT := fun ws A => fin ((mSeq (mRet (mCall opLen (mCons (mLc 24 (mWT (mCallF 1 k_parts (mCons (mCallM 13 "without" 2 k_Friends_without (mVar 0) (mCons (mVar 1) mNil)) mNil))) (.nm 2) [2] (mIsB (mBin (opEq false) (mBin (opIntC (fun _ j => decide (0 < j)) fun i j => i % j) (mCall opLen (mCons (mVar 2) mNil)) (mC (.int 2))) (mC (.int 1)))) mNo) mNil))) mNext) (startW 3 ws) A)
def k_check_mates : FnT := fun ws A => fin ((mSeq (mIfS (mIsB (mBin (opEq true) (mCall opLen (mCons (mVar 1) mNil)) (mFld 13 "count" (mVar 0)))) mNo mNext) (mSeq (mFor 24 (mWET (mCons (mVar 1) mNil)) (.tp [4, 5]) (mSeq (mIfS (mAnd (mIsB (mBin (opIsN true) (mVar 5) (mC .non))) mNo) mNo mNext) mNext)) (mSeq (mIfS (mIsB (mGx1 .any 24 (mWT (mVar 2)) (.nm 4) [4] mYes mNo)) mNo mNext) (mSeq (mAsg (mCall opLen (mCons (mLc 24 (mWT (mVar 1)) (.nm 4) [4] (mIsB (mBin (opIsN false) (mVar 4) (mC .non))) (mVar 4)) mNil)) (.nm 3)) (mSeq (mIfS (mOr (mIsB (mBin (opEq true) (mCall opLen (mCons (mCall opDict (mCons (mLc 24 (mWT (mVar 2)) (.nm 4) [4] mYes mNo) mNil)) mNil)) (mCall opLen (mCons (mVar 2) mNil)))) (mIsB (mBin (opEq true) (mBin (opInt fun i j => i - j) (mCallF 2 k_odd_parts (mCons (mVar 0) (mCons (mVar 2) mNil))) (mCall opLen (mCons (mVar 2) mNil))) (mVar 3)))) (mSeq (mRaise 4) mNext) mNext) mNo))))) (startW 6 ws) A)
def k_is_word : FnT := fun ws A => fin ((mSeq (mRet (mAndV (mBin (opEq true) (mVar 0) (mC (.str ""))) (mAndV (mBin (opIn false) (mBin opIx (mVar 0) (mC (.int 0))) (mC (.str "abcdefghijklmnopqrstuvwxyz"))) (mBin (opEq false) (mMeth (fun _ => isStr) opStrip (mVar 0) (mCons (mC (.str "abcdefghijklmnopqrstuvwxyz0123456789_")) mNil)) (mC (.str "")))))) mNext) (startW 1 ws) A)
def k_words_of : FnT := fun ws A => fin ((mSeq (mAsg (mLc 24 (mWL (mMeth (fun _ => isStr) opSplit (mVar 0) (mCons (mC (.str " ")) mNil))) (.nm 2) [2] (mIsB (mBin (opEq true) (mVar 2) (mC (.str "")))) (mVar 2)) (.nm 1)) (mSeq (mIfS (mIsB (mGx1 .any 24 (mWL (mVar 1)) (.nm 2) [2] mYes (mAndV (mNotV (mCallF 1 k_is_word (mCons (mVar 2) mNil))) mNo))) mNo mNext) (mSeq (mRet (mVar 1)) mNext))) (startW 3 ws) A)
def k_all_words : FnT := fun ws A => fin ((mSeq (mIfS (mIsB (mGx1 .any 24 (mWL (mVar 0)) (.nm 1) [1] mYes (mNotV (mCallF 1 k_is_word (mCons (mVar 1) mNil))))) mNo mNext) (mSeq (mRet (mVar 0)) mNext)) (startW 2 ws) A)
def k_read_row : FnT := fun ws A => fin ((mSeq (mAsg (mMeth (fun _ => isStr) opPart (mVar 1) (mCons (mC (.str ":")) mNil)) (.tp [3, 4, 5])) (mSeq (mAsg (mCallF 1 k_words_of (mCons (mVar 3) mNil)) (.nm 2)) (mSeq (mIfS (mOr (mIsB (mBin (opEq false) (mVar 4) (mC (.str "")))) mNo) (mSeq (mRaise 6) mNext) mNext) mNo))) (startW 6 ws) A)
def k_Fair_init : FnT := fun ws A => fin ((mSeq (mSetF 12 "lists" mDNew (mVar 0)) (mSeq (mSetF 12 "orders" mDNew (mVar 0)) (mSeq (mSetF 12 "seats" mDNew (mVar 0)) (mSeq (mSetF 12 "held" mDNew (mVar 0)) (mSeq (mSetF 12 "next" mDNew (mVar 0)) (mSeq (mSetF 12 "asks" (mC (.int 0)) (mVar 0)) mNext)))))) (startW 1 ws) A)
def k_read : FnT := fun ws A => fin ((mSeq (mAsg (mMake 12 1 k_Fair_init mNil) (.nm 1)) (mSeq (mFor 24 (mWL (mMeth (fun _ => isStr) opSplit (mVar 0) (mCons (mC (.str "\n")) mNil))) (.nm 2) (mSeq (mIfS (mIsB (mBin (opEq true) (mMeth (fun _ => isStr) opStrip (mVar 2) (mCons (mC (.str " ")) mNil)) (mC (.str "")))) (mSeq (mDrop (mCallF 2 k_read_row (mCons (mVar 1) (mCons (mVar 2) mNil)))) mNext) mNext) mNext)) mNo)) (startW 3 ws) A)
def k_read_groups : FnT := fun ws A => fin ((mSeq (mPar (mCons (mLst mNil) (mCons (mC .non) mNil)) [2, 3]) (mSeq (mFor 24 (mWL (mMeth (fun _ => isStr) opSplit (mMeth (fun _ => isStr) opRepl (mMeth (fun _ => isStr) opRepl (mVar 0) (mCons (mC (.str "(")) (mCons (mC (.str " ( ")) mNil))) (mCons (mC (.str ")")) (mCons (mC (.str " ) ")) mNil))) (mCons (mC (.str " ")) mNil))) (.nm 1) (mSeq (mIfS (mIsB (mBin (opEq false) (mVar 1) (mC (.str "(")))) (mSeq (mIfS (mIsB (mBin (opIsN true) (mVar 3) (mC .non))) mNo mNext) (mSeq (mAsg (mLst mNil) (.nm 3)) mNext)) (mSeq (mIfS (mIsB (mBin (opEq false) (mVar 1) (mC (.str ")")))) mNo (mSeq (mIfS (mIsB (mBin (opEq true) (mVar 1) (mC (.str "")))) mNo mNext) mNext)) mNext)) mNext)) (mSeq (mIfS (mIsB (mBin (opIsN true) (mVar 3) (mC .non))) (mSeq (mRaise 6) mNext) mNext) mNo))) (startW 4 ws) A)
def k_Deed_init : FnT := fun ws A => fin ((mSeq (mSetF 14 "kind" (mVar 1) (mVar 0)) (mSeq (mSetF 14 "who" (mVar 2) (mVar 0)) (mSeq (mSetF 14 "words" (mCall opTuple (mCons (mVar 3) mNil)) (mVar 0)) (mSeq (mSetF 14 "count" (mVar 4) (mVar 0)) mNext)))) (startW 5 ws) A)
def k_read_deed : FnT := fun ws A => fin ((mSeq (mAsg (mCallF 1 k_words_of (mCons (mVar 0) mNil)) (.nm 1)) (mSeq (mIfS (mOr (mIsB (mBin (opCmp fun i j => decide (i < j)) (mCall opLen (mCons (mVar 1) mNil)) (mC (.int 2)))) (mIsB (mBin (opIn true) (mBin opIx (mVar 1) (mC (.int 0))) (mTup (mCons (mC (.str "come")) (mCons (mC (.str "leave")) (mCons (mC (.str "wish")) (mCons (mC (.str "open")) (mCons (mC (.str "shut")) (mCons (mC (.str "change")) mNil)))))))))) (mSeq (mRaise 6) mNext) mNext) (mSeq (mPar (mCons (mBin opIx (mVar 1) (mC (.int 0))) (mCons (mSl (mVar 1) (mPart (mC (.int 2))) mNoPart) (mCons (mC .non) mNil))) [2, 3, 4]) (mSeq (mIfS (mIsB (mBin (opIn false) (mVar 2) (mTup (mCons (mC (.str "open")) (mCons (mC (.str "change")) mNil))))) mNo mNext) (mSeq (mIfS (mAnd (mIsB (mBin (opIn false) (mVar 2) (mTup (mCons (mC (.str "leave")) (mCons (mC (.str "shut")) mNil))))) (mIsB (mBin (opEq true) (mVar 3) (mLst mNil)))) mNo mNext) (mSeq (mRet (mMake 14 5 k_Deed_init (mCons (mVar 2) (mCons (mBin opIx (mCallF 1 k_all_words (mCons (mSl (mVar 1) (mPart (mC (.int 1))) (mPart (mC (.int 2)))) mNil)) (mC (.int 0))) (mCons (mCallF 1 k_all_words (mCons (mVar 3) mNil)) (mCons (mVar 4) mNil)))))) mNext)))))) (startW 5 ws) A)
def k_check_pairs : FnT := fun ws A => fin ((mSeq (mAsg (mLc 24 (mWT (mVar 1)) (.nm 6) [6] (mIsB (mBin (opIsN true) (mVar 6) (mC .non))) mNo) (.nm 3)) (mSeq (mIfS (mOr (mIsB (mBin (opEq true) (mCall opLen (mCons (mCall opDict (mCons (mLc 24 (mWL (mVar 3)) (.nm 6) [6] mYes mNo) mNil)) mNil)) (mCall opLen (mCons (mVar 3) mNil)))) (mIsB (mBin (opEq true) (mCall opLen (mCons (mVar 1) mNil)) (mCall opLen (mCons (mFld 16 "rows" (mVar 0)) mNil))))) mNo mNext) (mSeq (mIfS (mIsB (mGx1 .any 24 (mWET (mCons (mVar 1) mNil)) (.tp [7, 6]) [7, 6] mYes (mAndV (mBin (opIsN true) (mVar 6) (mC .non)) mNo))) mNo mNext) (mSeq (mAsg (mVar 2) (.tp [4, 5])) (mSeq (mIfS (mIsB (mGx2 .any 24 (mWEL (mCons (mFld 16 "rows" (mVar 0)) mNil)) (.tp [7, 8]) [7, 8, 6] mYes (mWT (mVar 8)) (.nm 6) [6] mYes (mAndV (mBin (opIn true) (mVar 7) (mVar 4)) (mBin (opIn true) (mVar 6) (mVar 5))))) (mSeq (mRaise 4) mNext) mNext) mNo))))) (startW 9 ws) A)
def k_check_short : FnT := fun ws A => fin ((mSeq (mIfS (mIsB (mGx1 .any 24 (mWT (mVar 1)) (.nm 3) [3] mYes (mNotV (mChain (opCmp fun i j => decide (i ≤ j)) (opCmp fun i j => decide (i < j)) (mC (.int 0)) (mVar 3) (mCall opLen (mCons (mFld 16 "rows" (mVar 0)) mNil)))))) mNo mNext) (mSeq (mAsg (mCall opDict (mCons (mLc2 24 (mWT (mVar 1)) (.nm 3) [3, 4] mYes (mWT (mBin opIx (mFld 16 "rows" (mVar 0)) (mVar 3))) (.nm 4) [4] mYes (mTup (mCons (mVar 4) (mCons (mC (.int 1)) mNil)))) mNil)) (.nm 2)) (mSeq (mIfS (mOr (mIsB (mBin (opEq true) (mCall opLen (mCons (mCall opDict (mCons (mLc 24 (mWT (mVar 1)) (.nm 3) [3] mYes (mTup (mCons (mVar 3) (mCons (mC (.int 1)) mNil)))) mNil)) mNil)) (mCall opLen (mCons (mVar 1) mNil)))) (mIsB (mBin (opCmp fun i j => decide (j ≤ i)) (mCall opLen (mCons (mVar 2) mNil)) (mCall opLen (mCons (mVar 1) mNil))))) (mSeq (mRaise 4) mNext) mNext) mNo))) (startW 5 ws) A)
def k_check_square : FnT := fun ws A => fin ((mSeq (mAsg (mLc 24 (mWL (mVar 0)) (.nm 4) [4] mYes (mCall opTuple (mCons (mVar 4) mNil))) (.nm 1)) (mSeq (mAsg (mCall opLen (mCons (mVar 1) mNil)) (.nm 2)) (mSeq (mIfS (mIsB (mGx1 .any 24 (mWL (mVar 1)) (.nm 4) [4] mYes (mOrV (mBin (opEq true) (mCall opLen (mCons (mVar 4) mNil)) (mVar 2)) mNo))) (mSeq (mRaise 5) mNext) mNext) mNo))) (startW 8 ws) A)
def k_parted : FnT := fun ws A => fin ((mSeq (mAsg (mLc 24 (mWL (mCallF 1 k_check_square (mCons (mVar 0) mNil))) (.nm 6) [6] mYes mNo) (.nm 1)) mNo) (startW 9 ws) A)
def k_drawn : FnT := fun ws A => fin ((mSeq (mAsg (mVar 1) (.nm 2)) (mSeq (mFor 24 (mWT (mVar 0)) (.tp [3, 4]) mNo) (mSeq (mRaise 5) mNext))) (startW 5 ws) A)
def k_Wants_linked : FnT := fun ws A => fin ((mSeq (mRet (mGx2 .sum 24 (mWT (mVar 1)) (.nm 3) [3, 4] mYes (mWT (mBin opIx (mFld 19 "lists" (mVar 0)) (mVar 3))) (.nm 4) [4] (mIsB (mBin (opIn false) (mVar 4) (mVar 2))) (mC (.int 1)))) mNext) (startW 5 ws) A)
def k_check_cut : FnT := fun ws A => fin ((mSeq (mAsg (mVar 1) (.tp [8, 9])) (mSeq (mIfS (mOr (mIsB (mGx1 .any 24 (mWT (mVar 8)) (.nm 13) [13] mYes (mNotV (mChain (opCmp fun i j => decide (i ≤ j)) (opCmp fun i j => decide (i < j)) (mC (.int 0)) (mVar 13) (mCall opLen (mCons (mFld 19 "lists" (mVar 0)) mNil)))))) (mIsB (mGx1 .any 24 (mWT (mVar 9)) (.nm 13) [13] mYes mNo))) mNo mNext) (mSeq (mIfS (mIsB (mGx1 .any 24 (mWT (mVar 1)) (.nm 12) [12] mYes (mBin (opEq true) (mCall opLen (mCons (mCall opDict (mCons (mLc 24 (mWT (mVar 12)) (.nm 13) [13] mYes (mTup (mCons (mVar 13) (mCons (mC (.int 1)) mNil)))) mNil)) mNil)) (mCall opLen (mCons (mVar 12) mNil))))) mNo mNext) (mSeq (mAsg (mLc 24 (mWR1 (mCons (mCall opLen (mCons (mFld 19 "lists" (mVar 0)) mNil)) mNil)) (.nm 10) [10] (mIsB (mBin (opIn true) (mVar 10) (mVar 8))) mNo) (.nm 2)) (mSeq (mAsg (mLc 24 (mWR1 (mCons (mCall opLen (mCons (mFld 19 "rooms" (mVar 0)) mNil)) mNil)) (.nm 11) [11] (mIsB (mBin (opIn true) (mVar 11) (mVar 9))) (mVar 11)) (.nm 3)) (mSeq (mAsg (mGx1 .sum 24 (mWT (mVar 8)) (.nm 10) [10] mYes (mBin opIx (mBin opIx (mFld 19 "askers" (mVar 0)) (mVar 10)) (mC (.int 0)))) (.nm 4)) (mSeq (mAsg (mGx1 .sum 24 (mWL (mVar 3)) (.nm 11) [11] mYes (mBin opIx (mBin opIx (mFld 19 "rooms" (mVar 0)) (mVar 11)) (mC (.int 0)))) (.nm 5)) (mSeq (mAsg (mBin opAdd (mGx1 .sum 24 (mWT (mVar 9)) (.nm 11) [11] mYes mNo) (mCallM 19 "linked" 3 k_Wants_linked (mVar 0) (mCons (mVar 8) (mCons (mVar 3) mNil)))) (.nm 6)) (mSeq (mAsg (mBin opAdd (mGx1 .sum 24 (mWL (mVar 2)) (.nm 10) [10] mYes mNo) (mCallM 19 "linked" 3 k_Wants_linked (mVar 0) (mCons (mVar 8) (mCons (mVar 3) mNil)))) (.nm 7)) (mSeq (mIfS (mAnd (mIsB (mBin (opCmp fun i j => decide (i ≤ j)) (mVar 4) (mVar 6))) (mIsB (mBin (opCmp fun i j => decide (i ≤ j)) (mVar 5) (mVar 7)))) (mSeq (mRaise 4) mNext) mNext) mNo)))))))))) (startW 14 ws) A)
def k_check_rows : FnT := fun ws A => fin ((mSeq (mAsg (mLc 24 (mWL (mVar 0)) (.nm 2) [2] mYes (mCall opTuple (mCons (mVar 2) mNil))) (.nm 1)) (mSeq (mIfS (mIsB (mGxN .any 24 (mWL (mVar 1)) (.nm 2) [2] mYes (mOrV (mBin (opEq true) (mCall opLen (mCons (mVar 2) mNil)) (mCall opLen (mCons (mBin opIx (mVar 1) (mC (.int 0))) mNil))) (mGx1 .any 24 (mWT (mVar 2)) (.nm 3) [3] mYes (mBin (opCmp fun i j => decide (i < j)) (mVar 3) (mC (.int 0))))))) (mSeq (mRaise 5) mNext) mNext) mNo)) (startW 4 ws) A)
def k_lists_of_lot : FnT := fun ws A => fin ((mSeq (mIfS (mOr (mIsB (mBin (opCmp fun i j => decide (j < i)) (mCall opLen (mCons (mVar 1) mNil)) (mC (.int 2)))) mNo) (mSeq (mRaise 5) mNext) mNext) mNo) (startW 6 ws) A)
def k_Votes_init : FnT := fun ws A => fin ((mSeq (mSetF 21 "lists" (mLc 24 (mWL (mVar 1)) (.nm 3) [3] mYes (mCallF 2 k_check_list (mCons (mVar 3) (mCons (mVar 2) mNil)))) (mVar 0)) (mSeq (mSetF 21 "things" (mVar 2) (mVar 0)) (mSeq (mSetF 21 "firsts" (mCall opTuple (mCons (mCall opSorted (mCons (mCall opDict (mCons (mLc 24 (mWL (mFld 21 "lists" (mVar 0))) (.nm 3) [3] (mIsB (mBin (opEq true) (mVar 3) (mTup mNil))) (mTup (mCons (mBin opIx (mVar 3) (mC (.int 0))) (mCons (mC (.int 1)) mNil)))) mNil)) mNil)) mNil)) (mVar 0)) mNext))) (startW 4 ws) A)
def k_Votes_second : FnT := fun ws A => fin ((mSeq (mAsg (mLc 24 (mWT (mBin opIx (mFld 21 "lists" (mVar 0)) (mVar 1))) (.nm 3) [3] (mIsB (mBin (opIn true) (mVar 3) (mFld 21 "firsts" (mVar 0)))) mNo) (.nm 2)) (mSeq (mRet (mIf (mIsB (mBin (opEq true) (mVar 2) (mLst mNil))) mNo (mC .non))) mNext)) (startW 4 ws) A)
def k_Votes_first : FnT := fun ws A => fin ((mSeq (mRet (mIf (mIsB (mBin (opEq true) (mBin opIx (mFld 21 "lists" (mVar 0)) (mVar 1)) (mTup mNil))) (mBin opIx (mBin opIx (mFld 21 "lists" (mVar 0)) (mVar 1)) (mC (.int 0))) mNo)) mNext) (startW 2 ws) A)
def k_Votes_choices : FnT := fun ws A => fin ((mSeq (mAsg (mLst mNil) (.nm 1)) (mSeq (mFor 24 (mWR1 (mCons (mCall opLen (mCons (mFld 21 "lists" (mVar 0)) mNil)) mNil)) (.nm 2) (mSeq (mAsg (mCallM 21 "second" 2 k_Votes_second (mVar 0) (mCons (mVar 2) mNil)) (.nm 3)) (mSeq (mAsg (mIf (mIsB (mBin (opIsN false) (mCallM 21 "first" 2 k_Votes_first (mVar 0) (mCons (mVar 2) mNil)) (mC .non))) mNo (mLst (mCons (mCallM 21 "first" 2 k_Votes_first (mVar 0) (mCons (mVar 2) mNil)) mNil))) (.nm 4)) (mSeq (mDrop (mMeth isLst opAppend (mVar 1) (mCons (mBin opAdd (mVar 4) (mLst (mCons (mIf (mIsB (mBin (opIsN false) (mVar 3) (mC .non))) (mBin opAdd (mFld 21 "things" (mVar 0)) (mVar 2)) mNo) mNil))) mNil))) mNext)))) (mSeq (mRet (mVar 1)) mNext))) (startW 5 ws) A)
def k_check_lot : FnT := fun ws A => fin ((mSeq (mAsg (mMake 21 3 k_Votes_init (mCons (mVar 0) (mCons (mVar 1) mNil))) (.nm 3)) (mSeq (mIfS (mOr (mIsB (mGx1 .any 24 (mWT (mVar 2)) (.nm 5) [5] mYes (mNotV (mChain (opCmp fun i j => decide (i ≤ j)) (opCmp fun i j => decide (i < j)) (mC (.int 0)) (mVar 5) (mCall opLen (mCons (mVar 0) mNil)))))) (mIsB (mBin (opEq true) (mCall opLen (mCons (mCall opDict (mCons (mLc 24 (mWT (mVar 2)) (.nm 5) [5] mYes (mTup (mCons (mVar 5) (mCons (mC (.int 1)) mNil)))) mNil)) mNil)) (mCall opLen (mCons (mVar 2) mNil))))) mNo mNext) (mSeq (mAsg (mCallM 21 "choices" 1 k_Votes_choices (mVar 3) mNil) (.nm 4)) (mSeq (mIfS (mIsB (mBin (opCmp fun i j => decide (j ≤ i)) (mCall opLen (mCons (mCall opDict (mCons (mLc2 24 (mWT (mVar 2)) (.nm 5) [5, 6] mYes (mWL (mBin opIx (mVar 4) (mVar 5))) (.nm 6) [6] mYes (mTup (mCons (mVar 6) (mCons (mC (.int 1)) mNil)))) mNil)) mNil)) (mCall opLen (mCons (mVar 2) mNil)))) (mSeq (mRaise 4) mNext) mNext) mNo)))) (startW 7 ws) A)
def k_Wish_init : FnT := fun ws A => fin ((mSeq (mSetF 10 "order" (mCall opTuple (mCons (mVar 1) mNil)) (mVar 0)) (mSeq (mSetF 10 "ranks" (mCall opDict (mCons (mLc 24 (mWET (mCons (mFld 10 "order" (mVar 0)) mNil)) (.tp [2, 3]) [2, 3] mYes (mTup (mCons (mVar 3) (mCons (mVar 2) mNil)))) mNil)) (mVar 0)) mNext)) (startW 4 ws) A)
def k_Table_init : FnT := fun ws A => fin ((mSeq (mSetF 22 "full" (mLc 24 (mWL (mVar 1)) (.nm 2) [2] mYes (mMake 10 2 k_Wish_init (mCons (mCallF 2 k_check_list (mCons (mVar 2) (mCons (mCall opLen (mCons (mVar 1) mNil)) mNil))) mNil))) (mVar 0)) (mSeq (mIfS (mIsB (mGx1 .any 24 (mWEL (mCons (mFld 22 "full" (mVar 0)) mNil)) (.tp [4, 5]) [4, 5] mYes (mCallM 10 "has" 2 k_Wish_has (mVar 5) (mCons (mVar 4) mNil)))) (mSeq (mRaise 1) mNext) mNext) (mSeq (mSetF 22 "left" (mLc 24 (mWEL (mCons (mFld 22 "full" (mVar 0)) mNil)) (.tp [4, 5]) [4, 5] mYes (mLc 24 (mWT (mFld 10 "order" (mVar 5))) (.nm 3) [3] (mIsB (mCallM 10 "has" 2 k_Wish_has (mBin opIx (mFld 22 "full" (mVar 0)) (mVar 3)) (mCons (mVar 4) mNil))) (mVar 3))) (mVar 0)) (mSeq (mSetF 22 "steps" (mLst mNil) (mVar 0)) mNext)))) (startW 6 ws) A)
def k_search : FnT := fun ws A => fin ((mSeq (mAsg (mMake 22 2 k_Table_init (mCons (mVar 0) mNil)) (.nm 1)) mNo) (startW 5 ws) A)
def k_pair_off : FnT := fun ws A => fin ((mSeq (mAsg (mCallF 1 k_search (mCons (mVar 0) mNil)) (.tp [1, 2])) mNo) (startW 4 ws) A)
def k_Table_cut_behind : FnT := fun ws A => fin ((mSeq (mWhile 24 (mIsB (mBin (opEq true) (mBin opIx (mBin opIx (mFld 22 "left" (mVar 0)) (mVar 1)) (mNeg (mC (.int 1)))) (mVar 2))) mNo) mNext) (startW 3 ws) A)
def k_check_ask : FnT := fun ws A => fin ((mSeq (mPar (mCons (mBin opIx (mVar 1) (mC (.int 1))) (mCons (mBin opIx (mVar 1) (mC (.int 2))) mNil)) [2, 3]) (mSeq (mIfS (mOr (mNot (mIsB (mChain (opCmp fun i j => decide (i ≤ j)) (opCmp fun i j => decide (i < j)) (mC (.int 0)) (mVar 2) (mCall opLen (mCons (mFld 22 "left" (mVar 0)) mNil))))) (mOr (mIsB (mBin (opEq false) (mBin opIx (mFld 22 "left" (mVar 0)) (mVar 2)) (mLst mNil))) (mIsB (mBin (opEq true) (mBin opIx (mBin opIx (mFld 22 "left" (mVar 0)) (mVar 2)) (mC (.int 0))) (mVar 3))))) mNo mNext) (mSeq (mDrop (mCallM 22 "cut_behind" 3 k_Table_cut_behind (mVar 0) (mCons (mVar 3) (mCons (mVar 2) mNil)))) mNext))) (startW 4 ws) A)
def k_check_steps : FnT := fun ws A => fin ((mSeq (mAsg (mMake 22 2 k_Table_init (mCons (mVar 0) mNil)) (.nm 2)) (mSeq (mAsg (mC .non) (.nm 3)) (mSeq (mFor 24 (mWL (mVar 1)) (.nm 4) (mSeq (mIfS (mIsB (mBin (opEq false) (mBin opIx (mVar 4) (mC (.int 0))) (mC (.str "ask")))) (mSeq (mDrop (mCallF 2 k_check_ask (mCons (mVar 2) (mCons (mVar 4) mNil)))) mNext) mNo) mNext)) (mSeq (mIfS (mOr (mIsB (mBin (opIsN false) (mVar 3) (mC .non))) mNo) (mSeq (mRaise 4) mNext) mNext) mNo)))) (startW 6 ws) A)
def k_Market_pairs : FnT := fun ws A => fin ((mSeq (mAsg (mLst mNil) (.nm 1)) (mSeq (mFor 24 (mWEL (mCons (mFld 11 "askers" (mVar 0)) mNil)) (.tp [2, 3]) (mSeq (mAug 1 opExt (mLc 24 (mWT (mFld 10 "order" (mVar 3))) (.nm 4) [4] (mIsB (mCallM 10 "has" 2 k_Wish_has (mBin opIx (mFld 11 "rooms" (mVar 0)) (mVar 4)) (mCons (mVar 2) mNil))) (mTup (mCons (mVar 2) (mCons (mVar 4) mNil))))) mNext)) (mSeq (mRet (mCall opTuple (mCons (mVar 1) mNil))) mNext))) (startW 5 ws) A)
def k_Wish_better : FnT := fun ws A => fin ((mSeq (mPar (mCons (mCallM 10 "rank" 2 k_Wish_rank (mVar 0) (mCons (mVar 1) mNil)) (mCons (mCallM 10 "rank" 2 k_Wish_rank (mVar 0) (mCons (mVar 2) mNil)) mNil)) [3, 4]) (mSeq (mRet (mAndV (mBin (opIsN true) (mVar 3) (mC .non)) (mOrV (mBin (opIsN false) (mVar 4) (mC .non)) (mBin (opCmp fun i j => decide (i < j)) (mVar 3) (mVar 4))))) mNext)) (startW 5 ws) A)
def k_why_not : FnT := fun ws A => fin ((mSeq (mIfS (mIsB (mCallM 10 "better" 3 k_Wish_better (mBin opIx (mFld 11 "askers" (mVar 0)) (mVar 2)) (mCons (mBin opIx (mVar 1) (mVar 2)) (mCons (mVar 3) mNil)))) mNo mNext) (mSeq (mAsg (mTup (mCons (mCallF 2 k_those_in (mCons (mVar 1) (mCons (mVar 3) mNil))) (mCons (mBin opIx (mFld 11 "rooms" (mVar 0)) (mVar 3)) mNil))) (.tp [4, 5])) (mSeq (mIfS (mAnd (mIsB (mBin (opEq false) (mCall opLen (mCons (mVar 4) mNil)) (mBin opIx (mFld 11 "seats" (mVar 0)) (mVar 3)))) mNo) mNo mNext) (mSeq (mRaise 4) mNext)))) (startW 7 ws) A)
def k_stable_paper : FnT := fun ws A => fin ((mSeq (mAsg (mLst mNil) (.nm 2)) (mSeq (mFor 24 (mWT (mCallM 11 "pairs" 1 k_Market_pairs (mVar 0) mNil)) (.tp [3, 4]) (mSeq (mIfS (mIsB (mBin (opEq true) (mBin opIx (mVar 1) (mVar 3)) (mVar 4))) (mSeq (mDrop (mMeth isLst opAppend (mVar 2) (mCons (mTup (mCons (mVar 3) (mCons (mVar 4) (mCons (mCallF 4 k_why_not (mCons (mVar 0) (mCons (mVar 1) (mCons (mVar 3) (mCons (mVar 4) mNil))))) mNil)))) mNil))) mNext) mNext) mNext)) mNo)) (startW 5 ws) A)
def k_check_best : FnT := fun ws A => fin ((mSeq (mAsg mDNewT (.nm 3)) (mSeq (mFor 24 (mWT (mVar 2)) (.tp [4, 5, 6]) mNo) (mSeq (mFor 24 (mWEL (mCons (mFld 11 "askers" (mVar 0)) mNil)) (.tp [4, 7]) (mSeq (mIfS (mIsB (mGx1 .any 24 (mWT (mCallM 10 "ahead_of" 2 k_Wish_ahead_of (mVar 7) (mCons (mBin opIx (mVar 1) (mVar 4)) mNil))) (.nm 5) [5] mYes (mBin (opDIn true) (mTup (mCons (mVar 4) (mCons (mVar 5) mNil))) (mVar 3)))) (mSeq (mRaise 4) mNext) mNext) mNext)) mNo))) (startW 10 ws) A)
def k_Tied_likes : FnT := fun ws A => fin ((mSeq (mRet (mAndV (mBin (opIn false) (mVar 2) (mBin opIx (mFld 24 "lists" (mVar 0)) (mVar 1))) (mBin (opDIn false) (mVar 1) (mBin opIx (mFld 24 "ranks" (mVar 0)) (mVar 2))))) mNext) (startW 3 ws) A)
def k_Strong_init : FnT := fun ws A => fin ((mSeq (mSetF 25 "tied" (mVar 1) (mVar 0)) (mSeq (mSetF 25 "left" (mLc 24 (mWEL (mCons (mFld 24 "lists" (mVar 1)) mNil)) (.tp [4, 5]) [4, 5] mYes (mLc 24 (mWT (mVar 5)) (.nm 3) [3] (mIsB (mCallM 24 "likes" 3 k_Tied_likes (mVar 1) (mCons (mVar 4) (mCons (mVar 3) mNil)))) (mVar 3))) (mVar 0)) (mSeq (mSetF 25 "inside" (mLc 24 (mWL (mFld 24 "orders" (mVar 1))) (.nm 2) [2] mYes (mLst mNil)) (mVar 0)) (mSeq (mSetF 25 "asked" (mBin opMul (mLst (mCons (mC (.bl false)) mNil)) (mCall opLen (mCons (mFld 24 "orders" (mVar 1)) mNil))) (mVar 0)) (mSeq (mSetF 25 "gone" (mLst mNil) (mVar 0)) mNext))))) (startW 6 ws) A)
def k_Strong_holds : FnT := fun ws A => fin ((mSeq (mRet (mGx1 .any 24 (mWL (mFld 25 "inside" (mVar 0))) (.nm 2) [2] mYes (mBin (opIn false) (mVar 1) (mVar 2)))) mNext) (startW 3 ws) A)
def k_Strong_still_asking : FnT := fun ws A => fin ((mSeq (mRet (mLc 24 (mWEL (mCons (mFld 25 "left" (mVar 0)) mNil)) (.tp [1, 2]) [1, 2] (mAnd (mIsB (mBin (opEq true) (mVar 2) (mLst mNil))) (mNot (mIsB (mCallM 25 "holds" 2 k_Strong_holds (mVar 0) (mCons (mVar 1) mNil))))) (mVar 1))) mNext) (startW 3 ws) A)
def k_Strong_ask : FnT := fun ws A => fin ((mSeq (mAsg (mBin opIx (mBin opIx (mFld 25 "left" (mVar 0)) (mVar 1)) (mC (.int 0))) (.nm 2)) (mSeq (mAsg (mBin opIx (mFld 24 "ranks" (mFld 25 "tied" (mVar 0))) (mVar 2)) (.nm 3)) (mSeq (mPutL (mC (.bl true)) (mFld 25 "asked" (mVar 0)) (mVar 2)) (mSeq (mDrop (mMeth isLst opAppend (mBin opIx (mFld 25 "inside" (mVar 0)) (mVar 2)) (mCons (mVar 1) mNil))) (mSeq (mFor 24 (mWL (mCall opSorted (mCons (mVar 3) mNil))) (.nm 4) (mSeq (mIfS (mIsB (mBin (opCmp fun i j => decide (j < i)) (mBin opDIx (mVar 3) (mVar 4)) (mBin opDIx (mVar 3) (mVar 1)))) mNo mNext) mNext)) (mSeq (mIfS (mIsB (mBin (opCmp fun i j => decide (j < i)) (mCall opLen (mCons (mBin opIx (mFld 25 "inside" (mVar 0)) (mVar 2)) mNil)) (mC (.int 1)))) mNo mNext) mNext)))))) (startW 5 ws) A)
def k_Strong_go_on : FnT := fun ws A => fin ((mSeq (mAsg (mCallM 25 "still_asking" 1 k_Strong_still_asking (mVar 0) mNil) (.nm 1)) (mSeq (mWhile 24 (mIsB (mBin (opEq true) (mVar 1) (mLst mNil))) (mSeq (mDrop (mCallM 25 "ask" 2 k_Strong_ask (mVar 0) (mCons (mBin opIx (mVar 1) (mC (.int 0))) mNil))) (mSeq (mAsg (mCallM 25 "still_asking" 1 k_Strong_still_asking (mVar 0) mNil) (.nm 1)) mNext))) mNext)) (startW 2 ws) A)
def k_check_none : FnT := fun ws A => fin ((mSeq (mAsg (mMake 25 2 k_Strong_init (mCons (mVar 0) mNil)) (.nm 2)) (mSeq (mDrop (mCallM 25 "go_on" 1 k_Strong_go_on (mVar 2) mNil)) (mSeq (mIfS (mOr (mNot (mIsB (mChain (opCmp fun i j => decide (i ≤ j)) (opCmp fun i j => decide (i < j)) (mC (.int 0)) (mVar 1) (mCall opLen (mCons (mFld 25 "asked" (mVar 2)) mNil))))) (mOr (mNot (mIsB (mBin opIx (mFld 25 "asked" (mVar 2)) (mVar 1)))) (mIsB (mBin (opEq true) (mBin opIx (mFld 25 "inside" (mVar 2)) (mVar 1)) (mLst mNil))))) (mSeq (mRaise 4) mNext) mNext) mNo))) (startW 3 ws) A)
def k_must_be_stable : FnT := fun ws A => fin ((mSeq (mIfS (mOr (mNot (mIsB (mCallF 2 k_is_stable (mCons (mVar 0) (mCons (mVar 1) mNil))))) mNo) (mSeq (mRaise 3) mNext) mNext) mNext) (startW 3 ws) A)
def k_better_of : FnT := fun ws A => fin ((mSeq (mDrop (mCallF 3 k_must_be_stable (mCons (mVar 0) (mCons (mVar 1) (mCons (mVar 2) mNil))))) mNo) (startW 4 ws) A)
def k_check_worths : FnT := fun ws A => fin ((mSeq (mAsg (mLc 24 (mWL (mVar 0)) (.nm 2) [2] mYes (mCall opTuple (mCons (mVar 2) mNil))) (.nm 1)) (mSeq (mIfS (mOr (mIsB (mGx1 .any 24 (mWL (mVar 1)) (.nm 2) [2] mYes (mBin (opEq true) (mCall opLen (mCons (mVar 2) mNil)) (mCall opLen (mCons (mBin opIx (mVar 1) (mC (.int 0))) mNil))))) mNo) (mSeq (mRaise 5) mNext) mNext) mNo)) (startW 4 ws) A)
def k_Search_init : FnT := fun ws A => fin (mNo (startW 4 ws) A)
def k_best_pairs : FnT := fun ws A => fin ((mSeq (mAsg (mMake 26 2 k_Search_init (mCons (mCallF 1 k_check_worths (mCons (mVar 0) mNil)) mNil)) (.nm 1)) mNo) (startW 7 ws) A)
def k_check_worth : FnT := fun ws A => fin ((mSeq (mAsg (mLc 24 (mWT (mVar 1)) (.nm 7) [7] (mIsB (mBin (opIsN true) (mVar 7) (mC .non))) (mVar 7)) (.nm 4)) (mSeq (mIfS (mOr (mIsB (mBin (opEq true) (mCall opLen (mCons (mVar 1) mNil)) (mCall opLen (mCons (mVar 0) mNil)))) (mOr (mIsB (mBin (opEq true) (mCall opLen (mCons (mVar 2) mNil)) (mCall opLen (mCons (mVar 0) mNil)))) (mIsB (mGx1 .any 24 (mWL (mVar 4)) (.nm 8) [8] mYes (mNotV (mChain (opCmp fun i j => decide (i ≤ j)) (opCmp fun i j => decide (i < j)) (mC (.int 0)) (mVar 8) (mCall opLen (mCons (mVar 3) mNil)))))))) mNo mNext) (mSeq (mIfS (mOr (mIsB (mBin (opEq true) (mCall opLen (mCons (mCall opDict (mCons (mLc 24 (mWL (mVar 4)) (.nm 7) [7] mYes (mTup (mCons (mVar 7) (mCons (mC (.int 1)) mNil)))) mNil)) mNil)) (mCall opLen (mCons (mVar 4) mNil)))) (mIsB (mGx1 .any 24 (mWL (mVar 0)) (.nm 5) [5] mYes (mBin (opEq true) (mCall opLen (mCons (mVar 5) mNil)) (mCall opLen (mCons (mVar 3) mNil)))))) mNo mNext) (mSeq (mIfS (mOr (mIsB (mGx1 .any 24 (mWT (mVar 2)) (.nm 8) [8] mYes (mBin (opCmp fun i j => decide (i < j)) (mVar 8) (mC (.int 0))))) (mIsB (mGx1 .any 24 (mWT (mVar 3)) (.nm 8) [8] mYes (mBin (opCmp fun i j => decide (i < j)) (mVar 8) (mC (.int 0)))))) mNo mNext) (mSeq (mFor 24 (mWEL (mCons (mVar 0) mNil)) (.tp [5, 6]) (mSeq (mIfS (mIsB (mGx1 .any 24 (mWET (mCons (mVar 6) mNil)) (.tp [7, 9]) [7, 9] mYes (mBin (opCmp fun i j => decide (i < j)) (mBin opAdd (mBin opIx (mVar 2) (mVar 5)) (mBin opIx (mVar 3) (mVar 7))) (mVar 9)))) (mSeq (mRaise 4) mNext) mNext) mNext)) mNo))))) (startW 10 ws) A)
def k_Market_init : FnT := fun ws A => fin ((mSeq (mIfS (mOr (mIsB (mBin (opEq true) (mCall opLen (mCons (mVar 2) mNil)) (mCall opLen (mCons (mVar 3) mNil)))) (mIsB (mGx1 .any 24 (mWL (mVar 3)) (.nm 5) [5] mYes (mBin (opCmp fun i j => decide (i < j)) (mVar 5) (mC (.int 0)))))) (mSeq (mRaise 2) mNext) mNext) (mSeq (mSetF 11 "askers" (mLc 24 (mWL (mVar 1)) (.nm 4) [4] mYes (mMake 10 2 k_Wish_init (mCons (mCallF 2 k_check_list (mCons (mVar 4) (mCons (mCall opLen (mCons (mVar 2) mNil)) mNil))) mNil))) (mVar 0)) (mSeq (mSetF 11 "rooms" (mLc 24 (mWL (mVar 2)) (.nm 4) [4] mYes (mMake 10 2 k_Wish_init (mCons (mCallF 2 k_check_list (mCons (mVar 4) (mCons (mCall opLen (mCons (mVar 1) mNil)) mNil))) mNil))) (mVar 0)) (mSeq (mSetF 11 "seats" (mCall opTuple (mCons (mVar 3) mNil)) (mVar 0)) mNext)))) (startW 6 ws) A)
def k_Market_shown : FnT := fun ws A => fin ((mSeq (mRet (mTup (mCons (mCall opTuple (mCons (mLc 24 (mWL (mFld 11 "askers" (mVar 0))) (.nm 1) [1] mYes (mFld 10 "order" (mVar 1))) mNil)) (mCons (mCall opTuple (mCons (mLc 24 (mWL (mFld 11 "rooms" (mVar 0))) (.nm 1) [1] mYes (mFld 10 "order" (mVar 1))) mNil)) (mCons (mFld 11 "seats" (mVar 0)) mNil))))) mNext) (startW 2 ws) A)
def k_Fair_likes : FnT := fun ws A => fin ((mSeq (mIfS (mOr (mIsB (mBin (opDIn true) (mVar 1) (mFld 12 "lists" (mVar 0)))) (mIsB (mBin (opDIn true) (mVar 2) (mFld 12 "orders" (mVar 0))))) mNo mNext) (mSeq (mRet (mAndV (mBin (opIn false) (mVar 2) (mBin opDIx (mFld 12 "lists" (mVar 0)) (mVar 1))) (mBin (opIn false) (mVar 1) (mBin opDIx (mFld 12 "orders" (mVar 0)) (mVar 2))))) mNext)) (startW 3 ws) A)
def k_Fair_those_in : FnT := fun ws A => fin ((mSeq (mRet (mLc 24 (mWT (mBin opDIx (mFld 12 "orders" (mVar 0)) (mVar 1))) (.nm 2) [2] (mIsB (mBin (opEq false) (mGet (mFld 12 "held" (mVar 0)) (mVar 2)) (mVar 1))) (mVar 2))) mNext) (startW 3 ws) A)
def k_Fair_match : FnT := fun ws A => fin ((mSeq (mRet (mCall opTuple (mCons (mLc 24 (mWL (mCall opSorted (mCons (mFld 12 "lists" (mVar 0)) mNil))) (.nm 1) [1] mYes (mTup (mCons (mVar 1) (mCons (mBin opDIx (mFld 12 "held" (mVar 0)) (mVar 1)) mNil)))) mNil))) mNext) (startW 2 ws) A)
def k_Fair_ask : FnT := fun ws A => fin ((mSeq (mAsg (mBin opIx (mBin opDIx (mFld 12 "lists" (mVar 0)) (mVar 1)) (mBin opDIx (mFld 12 "next" (mVar 0)) (mVar 1))) (.nm 2)) (mSeq (mAugD (opInt fun i j => i + j) (mFld 12 "next" (mVar 0)) (mVar 1) (mC (.int 1))) (mSeq (mAugF 12 "asks" (opInt fun i j => i + j) (mVar 0) (mC (.int 1))) (mSeq (mIfS (mNot (mIsB (mCallM 12 "likes" 3 k_Fair_likes (mVar 0) (mCons (mVar 1) (mCons (mVar 2) mNil))))) mNo mNext) (mSeq (mPutD (mVar 2) (mFld 12 "held" (mVar 0)) (mVar 1)) (mSeq (mAsg (mCallM 12 "those_in" 2 k_Fair_those_in (mVar 0) (mCons (mVar 2) mNil)) (.nm 3)) (mSeq (mIfS (mIsB (mBin (opCmp fun i j => decide (i ≤ j)) (mCall opLen (mCons (mVar 3) mNil)) (mBin opDIx (mFld 12 "seats" (mVar 0)) (mVar 2)))) (mSeq (mRet (mC .non)) mNext) mNext) mNo))))))) (startW 4 ws) A)
def k_Fair_who_waits : FnT := fun ws A => fin ((mSeq (mRet (mLc 24 (mWL (mCall opSorted (mCons (mFld 12 "lists" (mVar 0)) mNil))) (.nm 1) [1] (mAnd (mIsB (mBin (opIsN false) (mBin opDIx (mFld 12 "held" (mVar 0)) (mVar 1)) (mC .non))) (mIsB (mBin (opCmp fun i j => decide (i < j)) (mBin opDIx (mFld 12 "next" (mVar 0)) (mVar 1)) (mCall opLen (mCons (mBin opDIx (mFld 12 "lists" (mVar 0)) (mVar 1)) mNil))))) (mVar 1))) mNext) (startW 2 ws) A)
def k_Fair_go_on : FnT := fun ws A => fin ((mSeq (mAsg (mCallM 12 "who_waits" 1 k_Fair_who_waits (mVar 0) mNil) (.nm 1)) (mSeq (mWhile 24 (mIsB (mBin (opEq true) (mVar 1) (mLst mNil))) (mSeq (mAsg (mBin opIx (mVar 1) (mC (.int 0))) (.nm 2)) (mSeq (mWhile 24 (mAnd (mIsB (mBin (opIsN true) (mVar 2) (mC .non))) (mIsB (mBin (opCmp fun i j => decide (i < j)) (mBin opDIx (mFld 12 "next" (mVar 0)) (mVar 2)) (mCall opLen (mCons (mBin opDIx (mFld 12 "lists" (mVar 0)) (mVar 2)) mNil))))) (mSeq (mAsg (mCallM 12 "ask" 2 k_Fair_ask (mVar 0) (mCons (mVar 2) mNil)) (.nm 2)) mNext)) (mSeq (mAsg (mCallM 12 "who_waits" 1 k_Fair_who_waits (mVar 0) mNil) (.nm 1)) mNext)))) mNext)) (startW 3 ws) A)
def k_Fair_part_of : FnT := fun ws A => fin ((mSeq (mAsg (mTup (mCons (mCall opDict (mCons (mLc 24 (mWL (mVar 1)) (.nm 8) [8] mYes mNo) mNil)) (mCons (mCall opDict (mCons (mLc 24 (mWL (mVar 2)) (.nm 8) [8] mYes (mTup (mCons (mVar 8) (mCons (mC (.int 1)) mNil)))) mNil)) mNil))) (.tp [4, 5])) (mSeq (mAsg (mC (.bl true)) (.nm 3)) (mSeq (mWhile 24 (mIsB (mVar 3)) (mSeq (mAsg (mC (.bl false)) (.nm 3)) (mSeq (mForD0 12 0 "lists") mNext))) (mSeq (mRet (mLc 24 (mWL (mCall opSorted (mCons (mFld 12 "lists" (mVar 0)) mNil))) (.nm 6) [6] mNo mNo)) mNext)))) (startW 9 ws) A)
def k_Fair_ask_anew : FnT := fun ws A => fin ((mSeq (mFor 24 (mWL (mVar 1)) (.nm 2) mNo) (mSeq (mDrop (mCallM 12 "go_on" 1 k_Fair_go_on (mVar 0) mNil)) mNext)) (startW 3 ws) A)
def k_Fair_told : FnT := fun ws A => fin ((mSeq (mAsg (mCall opSorted (mCons (mCall opDict (mCons (mLc 24 (mWL (mBin opAdd (mCall opList (mCons (mVar 1) mNil)) (mCall opList (mCons (mFld 12 "held" (mVar 0)) mNil)))) (.nm 3) [3] mYes (mTup (mCons (mVar 3) (mCons (mC (.int 1)) mNil)))) mNil)) mNil)) (.nm 2)) (mSeq (mRet (mCall opTuple (mCons (mLc 24 (mWL (mVar 2)) (.nm 3) [3] (mIsB (mBin (opEq true) (mGet (mVar 1) (mVar 3)) (mGet (mFld 12 "held" (mVar 0)) (mVar 3)))) (mTup (mCons (mVar 3) (mCons (mGet (mVar 1) (mVar 3)) (mCons (mGet (mFld 12 "held" (mVar 0)) (mVar 3)) mNil))))) mNil))) mNext)) (startW 4 ws) A)
def k_Fair_come : FnT := fun ws A => fin ((mSeq (mIfS (mIsB (mBin (opDIn false) (mVar 1) (mFld 12 "lists" (mVar 0)))) (mSeq (mRaise 9) mNext) mNext) (mSeq (mAsg (mCall opDict (mCons (mFld 12 "held" (mVar 0)) mNil)) (.nm 3)) (mSeq (mPutD (mCallF 1 k_check_words (mCons (mVar 2) mNil)) (mFld 12 "lists" (mVar 0)) (mVar 1)) (mSeq (mPutD (mC .non) (mFld 12 "held" (mVar 0)) (mVar 1)) (mSeq (mPutD (mC (.int 0)) (mFld 12 "next" (mVar 0)) (mVar 1)) (mSeq (mDrop (mCallM 12 "go_on" 1 k_Fair_go_on (mVar 0) mNil)) (mSeq (mRet (mCallM 12 "told" 2 k_Fair_told (mVar 0) (mCons (mVar 3) mNil))) mNext))))))) (startW 4 ws) A)
def k_Fair_leave : FnT := fun ws A => fin ((mSeq (mIfS (mIsB (mBin (opDIn true) (mVar 1) (mFld 12 "lists" (mVar 0)))) (mSeq (mRaise 8) mNext) mNext) mNo) (startW 5 ws) A)
def k_Fair_set_room : FnT := fun ws A => fin ((mSeq (mIfS (mIsB (mBin (opCmp fun i j => decide (i < j)) (mVar 3) (mC (.int 0)))) (mSeq (mRaise 2) mNext) mNext) (mSeq (mPutD (mVar 2) (mFld 12 "orders" (mVar 0)) (mVar 1)) (mSeq (mPutD (mVar 3) (mFld 12 "seats" (mVar 0)) (mVar 1)) mNext))) (startW 4 ws) A)
def k_Fair_open_room : FnT := fun ws A => fin ((mSeq (mIfS (mIsB (mBin (opDIn false) (mVar 1) (mFld 12 "orders" (mVar 0)))) mNo mNext) (mSeq (mAsg (mCall opDict (mCons (mFld 12 "held" (mVar 0)) mNil)) (.nm 4)) (mSeq (mDrop (mCallM 12 "set_room" 4 k_Fair_set_room (mVar 0) (mCons (mVar 1) (mCons (mCallF 1 k_check_words (mCons (mVar 2) mNil)) (mCons (mVar 3) mNil))))) (mSeq (mDrop (mCallM 12 "ask_anew" 2 k_Fair_ask_anew (mVar 0) (mCons (mCallM 12 "part_of" 3 k_Fair_part_of (mVar 0) (mCons (mLst mNil) (mCons (mLst (mCons (mVar 1) mNil)) mNil))) mNil))) (mSeq (mRet (mCallM 12 "told" 2 k_Fair_told (mVar 0) (mCons (mVar 4) mNil))) mNext))))) (startW 5 ws) A)
def k_Fair_shut_room : FnT := fun ws A => fin ((mSeq (mIfS (mIsB (mBin (opDIn true) (mVar 1) (mFld 12 "orders" (mVar 0)))) (mSeq (mRaise 8) mNext) mNext) mNo) (startW 4 ws) A)
def k_Fair_change_room : FnT := fun ws A => fin ((mSeq (mIfS (mIsB (mBin (opDIn true) (mVar 1) (mFld 12 "orders" (mVar 0)))) mNo mNext) (mSeq (mPar (mCons (mCallF 1 k_check_words (mCons (mVar 2) mNil)) (mCons mNo mNil)) [5, 6]) mNo)) (startW 8 ws) A)
def k_Fair_names : FnT := fun ws A => fin ((mSeq (mRet (mTup (mCons (mCall opTuple (mCons (mCall opSorted (mCons (mFld 12 "lists" (mVar 0)) mNil)) mNil)) (mCons (mCall opTuple (mCons (mCall opSorted (mCons (mFld 12 "orders" (mVar 0)) mNil)) mNil)) mNil)))) mNext) (startW 1 ws) A)
def k_Friends_init : FnT := fun ws A => fin ((mSeq (mSetF 13 "count" (mVar 1) (mVar 0)) (mSeq (mSetF 13 "near" (mLc 24 (mWR1 (mCons (mVar 1) mNil)) (.nm 3) [3] mYes (mLst mNil)) (mVar 0)) (mSeq (mFor 24 (mWL (mVar 2)) (.tp [3, 4]) (mSeq (mIfS (mOr (mIsB (mBin (opEq false) (mVar 3) (mVar 4))) (mOr (mNot (mIsB (mChain (opCmp fun i j => decide (i ≤ j)) (opCmp fun i j => decide (i < j)) (mC (.int 0)) (mVar 3) (mVar 1)))) (mNot (mIsB (mChain (opCmp fun i j => decide (i ≤ j)) (opCmp fun i j => decide (i < j)) (mC (.int 0)) (mVar 4) (mVar 1)))))) mNo mNext) (mSeq (mIfS (mIsB (mBin (opIn true) (mVar 4) (mBin opIx (mFld 13 "near" (mVar 0)) (mVar 3)))) (mSeq (mDrop (mMeth isLst opAppend (mBin opIx (mFld 13 "near" (mVar 0)) (mVar 3)) (mCons (mVar 4) mNil))) (mSeq (mDrop (mMeth isLst opAppend (mBin opIx (mFld 13 "near" (mVar 0)) (mVar 4)) (mCons (mVar 3) mNil))) mNext)) mNext) mNext))) mNext))) (startW 5 ws) A)
def k_Deed_do : FnT := fun ws A => fin ((mSeq (mIfS (mIsB (mBin (opEq false) (mFld 14 "kind" (mVar 0)) (mC (.str "come")))) mNo mNext) (mSeq (mIfS (mIsB (mBin (opEq false) (mFld 14 "kind" (mVar 0)) (mC (.str "leave")))) (mSeq (mRet (mCallM 12 "leave" 2 k_Fair_leave (mVar 1) (mCons (mFld 14 "who" (mVar 0)) mNil))) mNext) mNext) mNo)) (startW 2 ws) A)
def k_Book_init : FnT := fun ws A => fin ((mSeq (mSetF 15 "fair" (mMake 12 1 k_Fair_init mNil) (mVar 0)) (mSeq (mSetF 15 "text" (mC (.str "")) (mVar 0)) (mSeq (mSetF 15 "many" (mC (.int 0)) (mVar 0)) mNext))) (startW 1 ws) A)
def k_Book_do : FnT := fun ws A => fin ((mSeq (mAsg (mCallF 1 k_read_deed (mCons (mVar 1) mNil)) (.nm 2)) (mSeq (mAsg (mCallM 14 "do" 2 k_Deed_do (mVar 2) (mCons (mFld 15 "fair" (mVar 0)) mNil)) (.nm 3)) mNo)) (startW 5 ws) A)
def k_Links_init : FnT := fun ws A => fin ((mSeq (mSetF 16 "rows" (mLc 24 (mWL (mVar 1)) (.nm 3) [3] mYes (mCall opTuple (mCons (mCall opSorted (mCons (mCall opDict (mCons (mLc 24 (mWL (mVar 3)) (.nm 4) [4] mYes (mTup (mCons (mVar 4) (mCons (mC (.int 1)) mNil)))) mNil)) mNil)) mNil))) (mVar 0)) (mSeq (mSetF 16 "many" (mVar 2) (mVar 0)) (mSeq (mIfS (mIsB (mGx2 .any 24 (mWL (mFld 16 "rows" (mVar 0))) (.nm 3) [3, 4] mYes (mWT (mVar 3)) (.nm 4) [4] mYes (mNotV (mChain (opCmp fun i j => decide (i ≤ j)) (opCmp fun i j => decide (i < j)) (mC (.int 0)) (mVar 4) (mVar 2))))) mNo mNext) mNext))) (startW 5 ws) A)
def k_Part_init : FnT := fun ws A => fin ((mSeq (mIfS (mIsB (mBin (opEq false) (mVar 2) (mC (.int 0)))) (mSeq (mRaise 5) mNext) mNext) mNo) (startW 4 ws) A)
def k_Pipes_init : FnT := fun ws A => fin ((mSeq (mSetF 18 "places" (mVar 1) (mVar 0)) (mSeq (mSetF 18 "room" mDNew (mVar 0)) (mSeq (mSetF 18 "going" mDNew (mVar 0)) mNext))) (startW 2 ws) A)
def k_Pipes_lay : FnT := fun ws A => fin ((mSeq (mIfS (mIsB (mBin (opCmp fun i j => decide (i < j)) (mVar 3) (mC (.int 0)))) (mSeq (mRaise 5) mNext) mNext) mNo) (startW 4 ws) A)
def k_Wants_init : FnT := fun ws A => fin ((mSeq (mSetF 19 "lists" (mLc 24 (mWL (mVar 1)) (.nm 4) [4] mYes (mCall opTuple (mCons (mCall opSorted (mCons (mCall opDict (mCons (mLc 24 (mWT (mVar 4)) (.nm 5) [5] mYes (mTup (mCons (mVar 5) (mCons (mC (.int 1)) mNil)))) mNil)) mNil)) mNil))) (mVar 0)) (mSeq (mSetF 19 "askers" (mCall opTuple (mCons (mVar 2) mNil)) (mVar 0)) (mSeq (mSetF 19 "rooms" (mCall opTuple (mCons (mVar 3) mNil)) (mVar 0)) (mSeq (mIfS (mOr (mIsB (mBin (opEq true) (mCall opLen (mCons (mFld 19 "askers" (mVar 0)) mNil)) (mCall opLen (mCons (mFld 19 "lists" (mVar 0)) mNil)))) (mIsB (mGx1 .any 24 (mWT (mBin opAdd (mFld 19 "askers" (mVar 0)) (mFld 19 "rooms" (mVar 0)))) (.tp [6, 7]) [6, 7] mYes (mOrV (mBin (opCmp fun i j => decide (i < j)) (mVar 6) (mC (.int 0))) (mBin (opCmp fun i j => decide (j < i)) (mVar 6) (mVar 7)))))) mNo mNext) (mSeq (mIfS (mIsB (mGx2 .any 24 (mWL (mFld 19 "lists" (mVar 0))) (.nm 4) [4, 5] mYes (mWT (mVar 4)) (.nm 5) [5] mYes (mNotV (mChain (opCmp fun i j => decide (i ≤ j)) (opCmp fun i j => decide (i < j)) (mC (.int 0)) (mVar 5) (mCall opLen (mCons (mFld 19 "rooms" (mVar 0)) mNil)))))) mNo mNext) mNext))))) (startW 8 ws) A)
def k_Keeper_init : FnT := fun ws A => fin ((mSeq (mSetF 20 "listed" (mMake 10 2 k_Wish_init (mCons (mVar 1) mNil)) (mVar 0)) (mSeq (mSetF 20 "seats" (mVar 2) (mVar 0)) (mSeq (mSetF 20 "keeps" (mCall opTuple (mCons (mVar 3) mNil)) (mVar 0)) (mSeq (mAsg (mLc 24 (mWT (mFld 20 "keeps" (mVar 0))) (.tp [5, 6]) [5, 6] mYes (mVar 6)) (.nm 4)) (mSeq (mIfS (mOr (mIsB (mBin (opCmp fun i j => decide (i < j)) (mVar 2) (mC (.int 0)))) (mOr (mIsB (mGx1 .any 24 (mWL (mVar 4)) (.nm 6) [6] mYes (mBin (opCmp fun i j => decide (i < j)) (mVar 6) (mC (.int 0))))) (mIsB (mBin (opCmp fun i j => decide (j < i)) (mCall opSum (mCons (mVar 4) mNil)) (mVar 2))))) (mSeq (mRaise 2) mNext) mNext) mNext))))) (startW 7 ws) A)
def k_Deals_check : FnT := fun ws A => fin ((mSeq (mIfS (mIsB (mBin (opEq true) (mCall opLen (mCons (mFld 10 "ranks" (mVar 1)) mNil)) (mCall opLen (mCons (mFld 10 "order" (mVar 1)) mNil)))) (mSeq (mRaise 1) mNext) mNext) (mSeq (mIfS (mIsB (mGx1 .any 24 (mWT (mFld 10 "order" (mVar 1))) (.nm 4) [4] mYes (mOrV (mNotV (mChain (opCmp fun i j => decide (i ≤ j)) (opCmp fun i j => decide (i < j)) (mC (.int 0)) (mVar 4) (mCall opLen (mCons (mFld 23 "contracts" (mVar 0)) mNil)))) (mBin (opEq true) (mBin opIx (mBin opIx (mFld 23 "contracts" (mVar 0)) (mVar 4)) (mVar 2)) (mVar 3))))) mNo mNext) mNext)) (startW 5 ws) A)
def k_Deals_init : FnT := fun ws A => fin ((mSeq (mSetF 23 "contracts" (mLc 24 (mWL (mVar 1)) (.nm 8) [8] mYes (mCall opTuple (mCons (mVar 8) mNil))) (mVar 0)) (mSeq (mSetF 23 "lists" (mLc 24 (mWL (mVar 2)) (.nm 9) [9] mYes (mMake 10 2 k_Wish_init (mCons (mVar 9) mNil))) (mVar 0)) (mSeq (mSetF 23 "orders" (mLc 24 (mWL (mVar 3)) (.nm 9) [9] mYes (mMake 10 2 k_Wish_init (mCons (mVar 9) mNil))) (mVar 0)) (mSeq (mSetF 23 "seats" (mCall opTuple (mCons (mVar 4) mNil)) (mVar 0)) (mSeq (mFor 24 (mWEL (mCons (mFld 23 "lists" (mVar 0)) mNil)) (.tp [5, 6]) (mSeq (mDrop (mCallM 23 "check" 4 k_Deals_check (mVar 0) (mCons (mVar 6) (mCons (mC (.int 0)) (mCons (mVar 5) mNil))))) mNext)) (mSeq (mFor 24 (mWEL (mCons (mFld 23 "orders" (mVar 0)) mNil)) (.tp [7, 6]) (mSeq (mDrop (mCallM 23 "check" 4 k_Deals_check (mVar 0) (mCons (mVar 6) (mCons (mC (.int 1)) (mCons (mVar 7) mNil))))) mNext)) mNext)))))) (startW 10 ws) A)
def k_Tied_init : FnT := fun ws A => fin ((mSeq (mSetF 24 "lists" (mLc 24 (mWL (mVar 1)) (.nm 3) [3] mYes (mCallF 2 k_check_list (mCons (mVar 3) (mCons (mCall opLen (mCons (mVar 2) mNil)) mNil)))) (mVar 0)) (mSeq (mSetF 24 "orders" (mLc 24 (mWL (mVar 2)) (.nm 4) [4] mYes (mCallF 2 k_check_groups (mCons (mVar 4) (mCons (mCall opLen (mCons (mVar 1) mNil)) mNil)))) (mVar 0)) (mSeq (mSetF 24 "ranks" (mLc 24 (mWL (mFld 24 "orders" (mVar 0))) (.nm 4) [4] mYes (mCallF 1 k_group_ranks (mCons (mVar 4) mNil))) (mVar 0)) mNext))) (startW 5 ws) A)
end K33
namespace K33
open PySem PySem.Spec PyProof.Rows L2
def t_0 : ET := (mCallF 2 k_check_list (mCons (mTup (mCons (mC (.int 1)) (mCons (mC (.int 1)) mNil))) (mCons (mC (.int 3)) mNil)))
def t_1 : ET := (mCallF 2 k_broken (mCons (mLst (mCons (mTup (mCons (mC (.int 0)) mNil)) mNil)) (mCons (mLst mNil) mNil)))
def t_2 : ET := (mCallF 1 k_all_lists (mCons (mC (.int 7)) mNil))
def t_3 : ET := (mMake 11 4 k_Market_init (mCons (mLst (mCons (mTup mNil) mNil)) (mCons (mLst (mCons (mTup mNil) mNil)) (mCons (mLst mNil) mNil))))
def t_4 : ET := (mCallF 2 k_check_match (mCons (mVar 0) (mCons (mTup (mCons (mC (.int 0)) mNil)) mNil)))
def t_5 : ET := (mCallF 2 k_check_match (mCons (mVar 0) (mCons (mTup (mCons (mC (.int 0)) (mCons (mC (.int 0)) mNil))) mNil)))
def t_6 : ET := (mCallF 2 k_stable_paper (mCons (mVar 0) (mCons (mTup (mCons (mC .non) (mCons (mC .non) mNil))) mNil)))
def t_7 : ET := (mCallF 3 k_check_best (mCons (mVar 0) (mCons (mTup (mCons (mC .non) (mCons (mC .non) mNil))) (mCons (mTup mNil) mNil))))
def t_8 : ET := (mCallF 3 k_better_of (mCons (mVar 0) (mCons (mTup (mCons (mC .non) (mCons (mC .non) mNil))) (mCons (mTup (mCons (mC (.int 0)) (mCons (mC (.int 1)) mNil))) mNil))))
def t_9 : ET := (mCallF 2 k_lists_of_lot (mCons (mVar 0) (mCons (mTup (mCons (mC (.int 0)) (mCons (mC (.int 1)) (mCons (mC (.int 0)) mNil)))) mNil)))
def t_10 : ET := (mCallF 2 k_check_none (mCons (mMake 24 3 k_Tied_init (mCons (mLst (mCons (mTup (mCons (mC (.int 0)) mNil)) mNil)) (mCons (mLst (mCons (mLst (mCons (mTup (mCons (mC (.int 0)) mNil)) mNil)) mNil)) mNil))) (mCons (mC (.int 0)) mNil)))
def t_11 : ET := (mCallF 3 k_check_pairs (mCons (mMake 16 3 k_Links_init (mCons (mLst (mCons (mLst (mCons (mC (.int 0)) mNil)) mNil)) (mCons (mC (.int 1)) mNil))) (mCons (mTup (mCons (mC .non) mNil)) (mCons (mTup (mCons (mTup mNil) (mCons (mTup mNil) mNil))) mNil))))
def t_12 : ET := (mCallF 2 k_check_short (mCons (mMake 16 3 k_Links_init (mCons (mLst (mCons (mLst (mCons (mC (.int 0)) mNil)) mNil)) (mCons (mC (.int 1)) mNil))) (mCons (mTup (mCons (mC (.int 0)) mNil)) mNil)))
def t_13 : ET := (mCallF 4 k_check_worth (mCons (mLst (mCons (mTup (mCons (mC (.int 2)) mNil)) mNil)) (mCons (mTup (mCons (mC (.int 0)) mNil)) (mCons (mTup (mCons (mC (.int 1)) mNil)) (mCons (mTup (mCons (mC (.int 0)) mNil)) mNil)))))
def t_14 : ET := (mCallF 1 k_best_pairs (mCons (mLst (mCons (mTup (mCons (mC (.int 1)) mNil)) (mCons (mTup (mCons (mC (.int 1)) (mCons (mC (.int 1)) mNil))) mNil))) mNil))
def t_15 : ET := (mCallF 3 k_check_mates (mCons (mMake 13 3 k_Friends_init (mCons (mC (.int 2)) (mCons (mLst (mCons (mTup (mCons (mC (.int 0)) (mCons (mC (.int 1)) mNil))) mNil)) mNil))) (mCons (mTup (mCons (mC .non) (mCons (mC .non) mNil))) (mCons (mTup mNil) mNil))))
def t_16 : ET := (mCallF 1 k_pair_off (mCons (mLst (mCons (mTup (mCons (mC (.int 0)) mNil)) mNil)) mNil))
def t_17 : ET := (mCallF 2 k_check_steps (mCons (mLst (mCons (mTup (mCons (mC (.int 1)) mNil)) (mCons (mTup (mCons (mC (.int 0)) mNil)) mNil))) (mCons (mLst (mCons (mTup (mCons (mC (.str "ask")) (mCons (mC (.int 0)) (mCons (mC (.int 1)) mNil)))) mNil)) mNil)))
def t_18 : ET := (mMake 17 3 k_Part_init (mCons (mC (.int 1)) (mCons (mC (.int 0)) mNil)))
def t_19 : ET := (mCallF 1 k_parted (mCons (mLst (mCons (mTup (mCons (mC (.int 1)) mNil)) (mCons (mTup (mCons (mC (.int 1)) mNil)) mNil))) mNil))
def t_20 : ET := (mCallF 2 k_drawn (mCons (mTup mNil) (mCons (mC (.int 0)) mNil)))
def t_21 : ET := (mCallF 1 k_check_rows (mCons (mLst (mCons (mTup (mCons (mC (.int 1)) mNil)) (mCons (mTup mNil) mNil))) mNil))
def t_22 : ET := (mCallM 18 "lay" 4 k_Pipes_lay (mMake 18 2 k_Pipes_init (mCons (mC (.int 2)) mNil)) (mCons (mC (.int 0)) (mCons (mC (.int 1)) (mCons (mBin (opInt fun i j => i - j) (mC (.int 0)) (mC (.int 1))) mNil))))
def t_23 : ET := (mCallF 2 k_check_cut (mCons (mMake 19 4 k_Wants_init (mCons (mLst (mCons (mTup (mCons (mC (.int 0)) mNil)) mNil)) (mCons (mLst (mCons (mTup (mCons (mC (.int 0)) (mCons (mC (.int 1)) mNil))) mNil)) (mCons (mLst (mCons (mTup (mCons (mC (.int 0)) (mCons (mC (.int 1)) mNil))) mNil)) mNil)))) (mCons (mTup (mCons (mTup (mCons (mC (.int 0)) mNil)) (mCons (mTup mNil) mNil))) mNil)))
def t_24 : ET := (mMake 20 4 k_Keeper_init (mCons (mTup mNil) (mCons (mC (.int 0)) (mCons (mLst (mCons (mTup (mCons (mC (.int 0)) (mCons (mC (.int 1)) mNil))) mNil)) mNil))))
def t_25 : ET := (mMake 23 5 k_Deals_init (mCons (mLst (mCons (mTup (mCons (mC (.int 0)) (mCons (mC (.int 0)) (mCons (mC (.int 0)) mNil)))) mNil)) (mCons (mLst (mCons (mTup (mCons (mC (.int 0)) mNil)) mNil)) (mCons (mLst (mCons (mTup (mCons (mC (.int 0)) (mCons (mC (.int 0)) mNil))) mNil)) (mCons (mLst (mCons (mC (.int 1)) mNil)) mNil)))))
def t_26 : ET := (mCallF 3 k_check_lot (mCons (mLst (mCons (mTup (mCons (mC (.int 0)) mNil)) mNil)) (mCons (mC (.int 1)) (mCons (mTup (mCons (mC (.int 0)) mNil)) mNil))))
def t_27 : ET := (mCallM 12 "come" 3 k_Fair_come (mVar 1) (mCons (mC (.str "a")) (mCons (mTup (mCons (mC (.str "x")) mNil)) mNil)))
def t_28 : ET := (mCallM 12 "leave" 2 k_Fair_leave (mVar 1) (mCons (mC (.str "z")) mNil))
def t_29 : ET := (mCallM 12 "open_room" 4 k_Fair_open_room (mVar 1) (mCons (mC (.str "y")) (mCons (mTup (mCons (mC (.str "a")) mNil)) (mCons (mBin (opInt fun i j => i - j) (mC (.int 0)) (mC (.int 1))) mNil))))
def t_30 : ET := (mCallM 12 "change_room" 4 k_Fair_change_room (mVar 1) (mCons (mC (.str "x")) (mCons (mTup (mCons (mC (.str "a")) (mCons (mC (.str "a")) mNil))) (mCons (mC (.int 1)) mNil))))
def t_31 : ET := (mCallM 12 "shut_room" 2 k_Fair_shut_room (mVar 1) (mCons (mC (.str "q")) mNil))
def t_32 : ET := (mCallF 1 k_read (mCons (mC (.str "asker")) mNil))
def t_33 : ET := (mCallF 1 k_read_groups (mCons (mC (.str "(")) mNil))
def t_34 : ET := (mCallF 1 k_read_deed (mCons (mC (.str "come")) mNil))
def t_35 : ET := (mCallM 15 "do" 2 k_Book_do (mVar 2) (mCons (mC (.str "leave a")) mNil))
def t_all : List ET := [t_0, t_1, t_2, t_3, t_4, t_5, t_6, t_7, t_8, t_9, t_10, t_11, t_12, t_13, t_14, t_15, t_16, t_17, t_18, t_19, t_20, t_21, t_22, t_23, t_24, t_25, t_26, t_27, t_28, t_29, t_30, t_31, t_32, t_33, t_34, t_35]
def t_due : List Nat := [1, 1, 5, 2, 3, 3, 4, 4, 3, 5, 4, 4, 4, 4, 5, 4, 1, 4, 5, 5, 5, 5, 5, 4, 2, 1, 4, 9, 8, 2, 1, 8, 6, 6, 6, 8]
def p_0 : ST := (mPar (mCons (mMake 11 4 k_Market_init (mCons (mLst (mCons (mTup (mCons (mC (.int 0)) (mCons (mC (.int 1)) mNil))) (mCons (mTup (mCons (mC (.int 1)) (mCons (mC (.int 0)) mNil))) mNil))) (mCons (mLst (mCons (mTup (mCons (mC (.int 0)) (mCons (mC (.int 1)) mNil))) (mCons (mTup (mCons (mC (.int 1)) (mCons (mC (.int 0)) mNil))) mNil))) (mCons (mLst (mCons (mC (.int 1)) (mCons (mC (.int 1)) mNil))) mNil)))) (mCons (mMake 12 1 k_Fair_init mNil) (mCons (mMake 15 1 k_Book_init mNil) mNil))) [4, 5, 6])
def p_1 : ST := (mDrop (mCallM 12 "open_room" 4 k_Fair_open_room (mVar 5) (mCons (mC (.str "x")) (mCons (mTup (mCons (mC (.str "a")) (mCons (mC (.str "b")) mNil))) (mCons (mC (.int 1)) mNil)))))
def p_2 : ST := (mDrop (mCallM 12 "come" 3 k_Fair_come (mVar 5) (mCons (mC (.str "a")) (mCons (mTup (mCons (mC (.str "x")) mNil)) mNil))))
def preN : ST := mSeq p_0 (mSeq p_1 p_2)
end K33
namespace K33
open PySem PySem.Spec PyProof.Rows L2
/-- a global name, by the kernel -/
theorem glk {X : Cx} {x : Str} (h : X.env.kindOf x = some .globalImplicit) : Gl X x := h
/-! ## the ground of this program -/
def G (K : PySem.W.Frag) : Gr := mkG (fun c => He.ga K (cnm c)) (tbs K) (He.cT K rowsAt).2
theorem mem_cut {α : Type} {l : List α} {i : Nat} {p : α} (h : l[i]? = some p) (h1 : i ≠ 12) (h2 : i < 24) : p ∈ l.take 12 ++ (l.drop 13).take 11 := by
  rcases Nat.lt_or_gt_of_ne h1 with z | z
  · refine List.mem_append_left _ (List.mem_of_getElem? (i := i) ?_)
    rw [List.getElem?_take_of_lt z]; exact h
  · refine List.mem_append_right _ (List.mem_of_getElem? (i := i - 13) ?_)
    rw [List.getElem?_take_of_lt (by omega), List.getElem?_drop, show 13 + (i - 13) = i by omega]; exact h
structure Gd (K : PySem.W.Frag) (mg : Str → Option Value) (base : Heap) : Prop where
  says : He.SaysD fa fn K
  inn : K.In base
  ns : base.Ns mainGlobals mg
  tb : ∀ p ∈ tf, GxR.TabB base mg (He.cT K p).1 (He.cT K p).2
/-- a def that keeps its promise -/
structure FnG (P : Program) (w : World) (K : PySem.W.Frag) (mg : Str → Option Value) (base : Heap) (p : Str × Option Str) (k : Nat) (ps : List Str) (n : Nat) (fn : FnT) : Prop where
  ex : ∃ fd, FnOk P w K mg base (L2.CX P w) k (He.fAd K p) fd ps (spOf (G K) n fn) ∧ Binds K fd ps []
  kp : PySem.W.keepIn K (.ref (He.fAd K p)) = true
theorem some_rv {ρ : List Addr} : ∀ {ws : List W} {vs : List V}, RVs ρ ws vs → SR ρ (ws.map some) (vs.map some)
  | _, _, .nil => .nil
  | _, _, .cons r t => .cons ⟨_, rfl, r⟩ (some_rv t)
theorem rep_none {ρ : List Addr} : ∀ n : Nat, SR ρ (List.replicate n none) (List.replicate n none)
  | 0 => .nil
  | n + 1 => .cons trivial (rep_none n)
theorem fin_of2 {g : Gr} {ρ : List Addr} {E : XK} {Q : VK} {r : Res Fl} (h : holds g ρ E (fin r) (KE Q)) : holds g ρ E r (KS { nx := fun _ H' => Q .non H', rt := Q }) := by
  cases r with
  | ok f A => cases f with
    | nx S => exact fun ρ' H' e m σ _ => h ρ' H' e m _ rfl
    | rt w => exact fun ρ' H' e m => h ρ' H' e m
  | exc c A => exact h
  | bad => exact h
section
variable {P : Program} {w : World} {K : PySem.W.Frag} {mg : Str → Option Value} {base : Heap}
theorem Gd.glo (T : Gd K mg base) {x : Str} (i : Nat) (h : fa[i]? = some (.glo x) := by rfl) : mg x = some (.ref (He.ga K x)) := He.glo_ok T.inn T.ns (T.says.fact i h)
theorem Gd.free (T : Gd K mg base) {x : Str} (i : Nat) (h : fa[i]? = some (.free x) := by rfl) : mg x = none := He.free_ok T.inn T.ns (T.says.fact i h)
theorem Gd.fstr (T : Gd K mg base) {x y : Str} (i : Nat) (h : fa[i]? = some (.str x y) := by rfl) : ∃ t, mg x = some (.str y t) := He.str_ok T.inn T.ns (T.says.fact i h)
theorem Gd.fint (T : Gd K mg base) {x : Str} {y : Int} (i : Nat) (h : fa[i]? = some (.int x y) := by rfl) : ∃ t, mg x = some (.int y t) := He.int_ok T.inn T.ns (T.says.fact i h)
theorem Gd.cls (T : Gd K mg base) {c : Nat} (i : Nat) (h : fa[i]? = some (.cls (cnm c)) := by rfl) : Cls K ((G K).ga c) := He.cls_ok (T.says.fact i h)
theorem Gd.noat (T : Gd K mg base) {c : Nat} {f : Str} (i : Nat) (h : fa[i]? = some (.noat (cnm c) f) := by rfl) : NoAttr K ((G K).ga c) f := He.noat_ok (T.says.fact i h)
theorem Gd.meth (T : Gd K mg base) {c : Nat} {m : Str} (i : Nat) (h : fa[i]? = some (.meth (cnm c) m) := by rfl) : Meth K ((G K).ga c) m (He.fAd K (cnm c, some m)) := He.meth_ok (T.says.fact i h)
theorem Gd.mkr (T : Gd K mg base) {c : Nat} (i : Nat) (h : fa[i]? = some (.mkr (cnm c)) := by rfl) : Mk K ((G K).ga c) (He.fAd K (cnm c, some "__init__")) := He.mkr_ok (T.says.fact i h)
theorem Gd.exc (T : Gd K mg base) {c : Nat} (i : Nat) (h : fa[i]? = some (.exc (cnm c)) := by rfl) : PySem.W.excIn K ((G K).ga c) He.veBase "ValueError.__new__" = true ∧ PySem.W.keepIn K (.ref ((G K).ga c)) = true ∧ PySem.W.subIn K (.ref ((G K).ga c)) (.type "BaseException") = some true ∧
    PySem.W.typeIn K (.ref ((G K).ga c)) = some (.type "type") := He.exc_ok (T.says.fact i h)
theorem Gd.tm (_T : Gd K mg base) {p : He.Defn} (i : Nat) (h : tf[i]? = some p := by rfl) (h1 : i ≠ 12 := by decide) (h2 : i < 24 := by decide) : (He.cT K p).2 ∈ (G K).tabs := List.mem_map.mpr ⟨p, mem_cut h h1 h2, rfl⟩
theorem rm {j k : Nat} {A : Around} (r : Room k A) (h : j ≤ k := by decide) : Room j A := r.mono h
theorem hu1 {k : Nat} {A : Around} (r : Room k A) : A.units + 1 < cLine := by have := r.un; omega
theorem hu64 {k : Nat} {A : Around} (r : Room k A) : A.units + 64 < cLine := by have := r.un; omega
theorem Gd.fun_ (T : Gd K mg base) {d : He.DefD} (i : Nat) (hd : fn[i]? = some d) {N ps : List Str} {k n : Nat} {b : ST} {fnc : FnT} (S : FnScope N ps d.scope) (hf : fnc = fun ws A => fin (b (startW N.length ws) A))
    (hb : ∀ (cdv : Value) (A : Around) (outer : List Env) (s : Shared) (H : Hp) (E : XK), cdv = .ref (He.cT K d.at_).1 → Room k (cxOf (L2.CX P w) P w K mg base N d.qual d.scope (He.fAd K d.at_) cdv A outer s H E).A →
      Takes (cxOf (L2.CX P w) P w K mg base N d.qual d.scope (He.fAd K d.at_) cdv A outer s H E) (fun cls d _ H => E cls d H) → Passes (L2.CX P w) (cxOf (L2.CX P w) P w K mg base N d.qual d.scope (He.fAd K d.at_) cdv A outer s H E) E →
      PassesOwn (model P w) (cxOf (L2.CX P w) P w K mg base N d.qual d.scope (He.fAd K d.at_) cdv A outer s H E).A (cxOf (L2.CX P w) P w K mg base N d.qual d.scope (He.fAd K d.at_) cdv A outer s H E).env (cxOf (L2.CX P w) P w K mg base N d.qual d.scope (He.fAd K d.at_) cdv A outer s H E).xe →
      PSs (cxOf (L2.CX P w) P w K mg base N d.qual d.scope (He.fAd K d.at_) cdv A outer s H E) d.body (rS (G K) E b))
    (hbind : ∀ fd, FunD K d.name d.qual d.params d.body d.scope (d.dvs K) (d.kws K) (He.fAd K d.at_) fd → Binds K fd ps []) (hn : n = ps.length := by rfl) :
    FnG P w K mg base d.at_ (k + 1) ps n fnc := by
  obtain ⟨fd, F⟩ := T.says.def_ i hd
  have hB := hbind fd F
  obtain ⟨oc, od, dV, kV, doc, pm, an, cdv, ct, osl, rfl, lk, hcd, _, _⟩ := F.ex
  obtain ⟨c, rfl⟩ := He.codeIn_ref hcd
  have ec : c = (He.cT K d.at_).1 := (He.codeOf_eq lk rfl).symm
  refine ⟨⟨PySem.W.fnOf d.name d.qual d.params d.body d.scope dV kV doc pm an (.ref c) ct, ?_, hB⟩, F.kp⟩
  refine fn_of lk hcd S (fun vs H Q E h => h.1.trans hn) fun A outer s H vs Q E hr hsp => ?_
  refine ⟨_, hb (.ref c) A outer s H E (by rw [ec]) hr (takes_of rfl rfl rfl rfl) (passes_call (takes_of rfl rfl rfl rfl) fun _ _ _ _ h => h) (passes_of rfl), ?_⟩
  obtain ⟨hl, ρ, ws, A0, rws, m, h⟩ := hsp
  subst hf
  have sr : SR ρ (startW N.length ws) (L2.start N vs) := by
    unfold startW L2.start
    rw [Paired.len2 rws]
    refine Paired.app2 ?_ ?_
    · exact some_rv rws
    · exact rep_none _
  refine ⟨ρ, _, A0, ⟨sr, m⟩, ?_⟩
  exact fin_of2 h
end
/-! ## the rules with this program's ground -/
section
variable {X : Cx} {E : XK} {g : Gr} {σ : L2.St} {H : Hp}
variable {e o i a b : Expr} {es rest : List Expr} {ma mb mc mo mv : ET} {ba : BT} {ml : LT} {sa sb : ST} {pos apos cpos : Pos}
theorem dv {i : Nat} {x : Str} (hN : X.N[i]? = some x := by rfl) (hv : Vis X.env.scope x := by first | exact Or.inl rfl | exact Or.inr (Or.inl rfl) | exact Or.inr (Or.inr rfl)) (hd : (x == ("__debug__" : Str)) = false := by decide)
    (hcd : (x == ("__classdict__" : Str)) = false := by decide) : PE X (.Name x pos) (rE g E (mVar i)) := d_var hN hv hd hcd
theorem wgstr {x y : Str} (hg : Gl X x) (hm : ∃ t, X.mg x = some (.str y t)) (hd : (x == ("__debug__" : Str)) = false := by decide) : PE X (.Name x pos) (rE g E (mC (.str y))) := by
  obtain ⟨t, ht⟩ := hm
  exact d_gstr hg ht hd
theorem wgint {x : Str} {y : Int} (hg : Gl X x) (hm : ∃ t, X.mg x = some (.int y t)) (hd : (x == ("__debug__" : Str)) = false := by decide) : PE X (.Name x pos) (rE g E (mC (.int y))) := by
  obtain ⟨t, ht⟩ := hm
  exact d_gint hg ht hd
theorem dgn {j : Nat} {x : Str} (hN : X.N.Nodup) (hi : X.N[j]? = some x := by rfl) (hx : Loc X.env.scope x := by first | exact Or.inl rfl | exact Or.inr rfl) (hf : X.fn x = true ∨ X.env.scope.names.lookup x = some .local := by first | exact .inl rfl | exact .inr rfl) : PG X (.Name x pos) (gT X.K (.nm j)) := d_gname hN hi hx hf
theorem dset (j : Nat) {x : Str} {pos' : Pos} (hN : X.N.Nodup) (he : PE X e (rE g E ma)) (hi : X.N[j]? = some x := by rfl) (hx : Loc X.env.scope x := by first | exact Or.inl rfl | exact Or.inr rfl) (hs : swapsWith e (some (.Name x pos')) pos.line X.env = pure false := by rfl)
    (hf : X.fn x = true ∨ X.env.scope.names.lookup x = some .local := by first | exact .inl rfl | exact .inr rfl) : PS X (.Assign [.Name x pos'] e pos) (rS g E (mAsg ma (.nm j))) := d_sset hN hi hx he hs hf
theorem daug (j : Nat) {x : Str} {pos' : Pos} {op : Operator} {r : R2} {fo : Op2} (hN : X.N.Nodup) (he : PE X e (rE g E ma)) (ho : PIp X op r) (hp : Prim g E r fo) (hi : X.N[j]? = some x := by rfl) (hx : Loc X.env.scope x := by first | exact Or.inl rfl | exact Or.inr rfl)
    (hf : X.fn x = true ∨ X.env.scope.names.lookup x = some .local := by first | exact .inl rfl | exact .inr rfl) : PS X (.AugAssign (.Name x pos') op e pos) (rS g E (mAug j fo ma)) := d_aug hN hi hx he ho hp hf
theorem dpar2 {j k : Nat} {x y : Str} {a b : Expr} {px py pt : Pos} {kt k2 pt2} (hN : X.N.Nodup) (ha : PA X [a, b] (rL g E ml)) (hc : X.calm = true := by rfl) (hi : X.N[j]? = some x := by rfl) (hj : X.N[k]? = some y := by rfl) (hij : j ≠ k := by decide)
    (hx : X.env.scope.names.lookup x = some .local := by rfl) (hy : X.env.scope.names.lookup y = some .local := by rfl)
    (hw : swappedStores [.Tuple [.Name x px, .Name y py] kt pt] (.Tuple [a, b] k2 pt2) X.env = pure (some [x, y]) := by rfl)
    (hs : swapsWithSole [.Tuple [.Name x px, .Name y py] kt pt] (.Tuple [a, b] k2 pt2) pos.line X.env = pure false := by rfl) :
    PS X (.Assign [.Tuple [.Name x px, .Name y py] kt pt] (.Tuple [a, b] k2 pt2) pos) (rS g E (mPar ml [j, k])) := d_spar2 hc hN hi hj hij hx hy ha hw hs
theorem dpar3 {j k l : Nat} {x y z : Str} {a b c : Expr} {px py pz pt : Pos} {kt k2 pt2} (hN : X.N.Nodup) (ha : PA X [a, b, c] (rL g E ml)) (hc : X.calm = true := by rfl) (hi : X.N[j]? = some x := by rfl) (hj : X.N[k]? = some y := by rfl) (hl : X.N[l]? = some z := by rfl) (hij : j ≠ k := by decide) (hil : j ≠ l := by decide) (hjl : k ≠ l := by decide)
    (hx : X.env.scope.names.lookup x = some .local := by rfl) (hy : X.env.scope.names.lookup y = some .local := by rfl) (hz : X.env.scope.names.lookup z = some .local := by rfl)
    (hw : swappedStores [.Tuple [.Name x px, .Name y py, .Name z pz] kt pt] (.Tuple [a, b, c] k2 pt2) X.env = pure (some [x, y, z]) := by rfl)
    (hs : swapsWithSole [.Tuple [.Name x px, .Name y py, .Name z pz] kt pt] (.Tuple [a, b, c] k2 pt2) pos.line X.env = pure false := by rfl) :
    PS X (.Assign [.Tuple [.Name x px, .Name y py, .Name z pz] kt pt] (.Tuple [a, b, c] k2 pt2) pos) (rS g E (mPar ml [j, k, l])) := d_spar3 hc hN hi hj hl hij hil hjl hx hy hz ha hw hs
theorem passNo : Passes (L2.CX X.prog X.w) X noE := fun _ _ _ _ _ _ _ h => by
  obtain ⟨_, _, _, _, _, _, _, _, _, _, _, _, z⟩ := h
  exact z.elim
theorem d_neg (ha : PE X a (rE g E ma)) : PE X (.UnaryOp .USub a pos) (rE g E (mNeg ma)) :=
  PE.imp (pe_un un_neg ha) fun σ H Q ⟨ρ, S, A, at_, h⟩ => bindE at_ h fun ρ1 w1 A1 x H1 e1 a1 r1 h1 => by
    split at h1
    · obtain rfl := r1
      exact ⟨_, rfl, holds.ok (a := W.int _) h1 a1.m _ rfl⟩
    · exact h1.elim
theorem lstTy {K : PySem.W.Frag} : ∀ (ρ : List Addr) (A : Hs) (H : Hp) (w : W) (v : V), M g ρ A H → RV ρ w v → isLst A w = true → tyV K "list" v H := fun _ _ _ _ _ m r h => isLst_of m r h
theorem strTy {K : PySem.W.Frag} : ∀ (ρ : List Addr) (A : Hs) (H : Hp) (w : W) (v : V), M g ρ A H → RV ρ w v → isStr w = true → tyV K "str" v H := fun _ _ _ _ _ _ r h => isStr_of r h
theorem mtAppend : MtR X "list.append" rAppend := mt_append
theorem mtPop : MtR X "list.pop" rPop := mt_pop
variable {k n : Nat} {ps : List Str} {fn : FnT} {x m : Str} {p : Pos}
theorem w_call (F : FnG X.prog X.w X.K X.mg X.base (x, none) k ps n fn) (hr : Room k X.A) (hg : Gl X x) (hm : X.mg x = some (.ref (He.ga X.K x))) (hx : Passes (L2.CX X.prog X.w) X E) (ha : PA X (e :: es) (rL (G X.K) E ml)) (hdb : (x == ("__debug__" : Str)) = false := by decide)
    (he : starEach (e :: es) X.env = (false, eval e X.env) :: starEach es X.env := by rfl) (hpl : (backTo pos (starEach es X.env)).any (·.1) = false := by rfl) : PE X (.Call (.Name x p) (e :: es) [] pos) (rE (G X.K) E (mCallF n fn ml)) := by
  obtain ⟨fd, F1, hb⟩ := F.ex
  exact d_call F1 hr hg hm F.kp hb hx ha hdb he hpl
theorem w_make {c : Nat} (Mk_ : Mk X.K ((G X.K).ga c) (He.fAd X.K (cnm c, some "__init__"))) (F : FnG X.prog X.w X.K X.mg X.base (cnm c, some "__init__") k ps n fn) (hr : Room (k + 1) X.A) (hg : Gl X x) (hm : X.mg x = some (.ref ((G X.K).ga c))) (hx : Passes (L2.CX X.prog X.w) X E) (ha : PA X (e :: es) (rL (G X.K) E ml)) (hdb : (x == ("__debug__" : Str)) = false := by decide)
    (he : starEach (e :: es) X.env = (false, eval e X.env) :: starEach es X.env := by rfl) (hpl : (backTo pos (starEach es X.env)).any (·.1) = false := by rfl) : PE X (.Call (.Name x p) (e :: es) [] pos) (rE (G X.K) E (mMake c n fn ml)) := by
  obtain ⟨fd, F1, hb⟩ := F.ex
  exact d_make Mk_ F1 hr hg hm hb hx ha hdb he hpl
theorem w_make0 {c : Nat} (Mk_ : Mk X.K ((G X.K).ga c) (He.fAd X.K (cnm c, some "__init__"))) (F : FnG X.prog X.w X.K X.mg X.base (cnm c, some "__init__") k ps n fn) (hr : Room (k + 1) X.A) (hg : Gl X x) (hm : X.mg x = some (.ref ((G X.K).ga c))) (hx : Passes (L2.CX X.prog X.w) X E) (hdb : (x == ("__debug__" : Str)) = false := by decide) : PE X (.Call (.Name x p) [] [] pos) (rE (G X.K) E (mMake c n fn mNil)) := by
  obtain ⟨fd, F1, hb⟩ := F.ex
  exact d_make0 Mk_ F1 hr hg hm hb hx hdb
theorem w_meth {c : Nat} (ho : PE X o (rE (G X.K) E mo)) (hC : Cls X.K ((G X.K).ga c)) (hm : Meth X.K ((G X.K).ga c) m (He.fAd X.K (cnm c, some m))) (F : FnG X.prog X.w X.K X.mg X.base (cnm c, some m) k ps n fn) (hr : Room k X.A) (hx : Passes (L2.CX X.prog X.w) X E) (ha : PA X (e :: es) (rL (G X.K) E ml))
    (hst : starEach (e :: es) X.env = (false, eval e X.env) :: starEach es X.env := by rfl) (hpl : (backTo pos (starEach es X.env)).any (·.1) = false := by rfl)
    (ht : eval (.Call (.Attribute o m apos) (e :: es) [] pos) X.env = (do
      let ov ← eval o X.env
      standAt apos.atName
      let (f, first) ← holding [ov] (getMethod ov m (plainOf o X.env))
      callWith pos f first (backTo pos (starEach (e :: es) X.env)) (backToKw pos (keywordEach [] X.env))) := by rfl) : PE X (.Call (.Attribute o m apos) (e :: es) [] pos) (rE (G X.K) E (mCallM c m n fn mo ml)) := by
  obtain ⟨fd, F1, hb⟩ := F.ex
  exact d_meth ho hC hm F1 hr hb hx ha hst hpl ht
theorem w_meth0 {c : Nat} (ho : PE X o (rE (G X.K) E mo)) (hC : Cls X.K ((G X.K).ga c)) (hm : Meth X.K ((G X.K).ga c) m (He.fAd X.K (cnm c, some m))) (F : FnG X.prog X.w X.K X.mg X.base (cnm c, some m) k ps n fn) (hr : Room k X.A) (hx : Passes (L2.CX X.prog X.w) X E)
    (ht : eval (.Call (.Attribute o m apos) [] [] pos) X.env = (do
      let ov ← eval o X.env
      standAt apos.atName
      let (f, first) ← holding [ov] (getMethod ov m (plainOf o X.env))
      callWith pos f first (backTo pos (starEach [] X.env)) (backToKw pos (keywordEach [] X.env))) := by rfl) : PE X (.Call (.Attribute o m apos) [] [] pos) (rE (G X.K) E (mCallM c m n fn mo mNil)) := by
  obtain ⟨fd, F1, hb⟩ := F.ex
  exact d_meth0 ho hC hm F1 hr hb hx ht
theorem w_raise {c : Nat} {m : Str} {j : Nat} {p2 rpos : Pos} (hc : X.calm = true) (tk : Takes X (fun cls d _ H => E cls d H)) (q : PySem.W.excIn X.K ((G X.K).ga c) He.veBase "ValueError.__new__" = true ∧ PySem.W.keepIn X.K (.ref ((G X.K).ga c)) = true ∧ PySem.W.subIn X.K (.ref ((G X.K).ga c)) (.type "BaseException") = some true ∧
    PySem.W.typeIn X.K (.ref ((G X.K).ga c)) = some (.type "type")) (hg : Gl X x) (gC : X.mg x = some (.ref ((G X.K).ga c))) (hdb : (x == ("__debug__" : Str)) = false := by decide) :
    PS X (.Raise (some (.Call (.Name x p) [.Constant (.str m) j p2] [] pos)) none rpos) (rS (G X.K) E (mRaise c)) := d_raise hc tk q.1 q.2.1 q.2.2.1 q.2.2.2 hg gC hdb
end
section
variable {X : Cx} {sc : Scope}
theorem Gd.gx (T : Gd X.K X.mg X.base) {p : He.Defn} {own : List (Str × Nat)} (i k : Nat) (hcd : X.env.code = .ref (He.cT X.K p).1) (hN : X.N.Nodup) (hr : Room (k + 3) X.A) (h : tf[i]? = some p := by rfl) (hc : X.calm = true := by rfl) (B : blkC X.N X.env.scope sc own = true := by kernel_rfl)
    (nc : (sc.names.all fun y => match y.2 with | .cell => false | _ => true) = true := by kernel_rfl) (dl : sc.names.lookup (".0" : Str) = some NameKind.local := by rfl) (dot : decide ((".0" : Str) ∉ X.N) = true := by kernel_rfl) (co : sc.isCoroutine = false := by rfl) : GxOk X (He.cT X.K p).1 (He.cT X.K p).2 sc own k :=
  ⟨hr, hc, T.tb p (List.mem_of_getElem? h), hcd, blkOk_by B, hN, (fun y hy e => by
    have := List.all_eq_true.mp nc y hy
    rw [e] at this
    cases this), dl, of_decide_eq_true dot, co⟩
end
section
variable {X : Cx} {sc sc' : Scope} {s : Shared} {H : Hp} {cl : List (Str × Addr)} {C c' : Addr} {A' : Around} {fp : List Addr} {pn : List (Addr × Obj)}
theorem Gd.gxD (T : Gd X.K X.mg X.base) {p : He.Defn} {own : List (Str × Nat)} (i k : Nat) (hcd : (genY X sc s H cl C (.ref c') A' fp pn).env.code = .ref c') (hN : X.N.Nodup) (hr : Room (k + 3) A') (h : tf[i]? = some p := by rfl) (hc : X.calm = true := by rfl) (B : blkC X.N sc sc' own = true := by kernel_rfl)
    (nc : (sc'.names.all fun y => match y.2 with | .cell => false | _ => true) = true := by kernel_rfl) (dl : sc'.names.lookup (".0" : Str) = some NameKind.local := by rfl) (dot : decide ((".0" : Str) ∉ X.N) = true := by kernel_rfl) (co : sc'.isCoroutine = false := by rfl) : GxOkD (genY X sc s H cl C (.ref c') A' fp pn) c' (He.cT X.K p).2 sc' own k :=
  ⟨hr, hc, (T.tb p (List.mem_of_getElem? h)).bm, hcd, blkOk_by B, hN, (fun y hy e => by
    have := List.all_eq_true.mp nc y hy
    rw [e] at this
    cases this), dl, of_decide_eq_true dot, co⟩
end
/-! ## an empty dict walked; a text's signs exchanged; Deed's own __init__ -/
section
variable {X : Cx} {E : XK} {g : Gr} {σ : L2.St} {H : Hp}
theorem upd_back {H : Hp} {d : Addr} {u v : HO} (h : H d = some u) : upd (upd H d v) d u = H := by
  funext b
  by_cases hb : b = d
  · rw [hb, upd_same, h]
  · rw [upd_ne hb, upd_ne hb]
def gNo : TG := fun _ _ _ _ => False
theorem pg_no {tg : Expr} : PG X tg gNo := ⟨by intros; contradiction⟩
theorem d_forD0 {c i : Nat} {x f : Str} {tg : Expr} {body : List Stmt} {p p2 pos : Pos} (hp : PassesOwn (model X.prog X.w) X.A X.env X.xe) (hC : Cls X.K (g.ga c)) (hn : NoAttr X.K (g.ga c) f) (hc : X.calm = true := by rfl) (hN : X.N[i]? = some x := by rfl)
    (hv : Vis X.env.scope x := by first | exact Or.inl rfl | exact Or.inr (Or.inl rfl) | exact Or.inr (Or.inr rfl)) (hd : (x == ("__debug__" : Str)) = false := by decide) (hcd : (x == ("__classdict__" : Str)) = false := by decide)
    (hb : attributeBase (.Name x p) f X.env (eval (.Name x p) X.env) = eval (.Name x p) X.env := by rfl) (hs : ∀ z, foldedSetIterable (.Attribute (.Name x p) f p2) X.env z = pure z := by intro _; rfl) :
    PS X (.For tg (.Attribute (.Name x p) f p2) body [] pos) (rS g E (mForD0 c i f)) :=
  PS.imp (ps_lock (ps_for hp hc (pi_keys (pe_fld (pe_var hN hv hd hcd) hb)) pg_no (d_noSs (g := g) (E := E)) hs)) fun D σ H ⟨ρ, S, A, at_, h⟩ => by
    unfold mForD0 at h
    split at h
    · rename_i w hw
      obtain ⟨y, e1, v, e2, r⟩ := Paired.get2 at_.s hw
      split at h
      · rename_i k fs hk
        obtain ⟨_, hA, a, dx, vs, rfl, ea, rv, hva⟩ := insOf_of at_.m r hk
        split at h
        · rename_i j hj
          obtain ⟨v', hv', d, rfl, ed⟩ := lookF rv hj
          split at h
          · rename_i hkd
            obtain ⟨us, ru, hu⟩ := at_.m.at_ hkd ed
            cases ru
            have ne : a ≠ d := fun z => by rw [z, hu] at hva; cases hva
            refine ⟨d, _, hu, trivial, fun od => ?_⟩
            refine ⟨.ref a, by rw [e1, e2], a, _, dx, vs, .ref d, rfl, by rw [upd_ne ne]; exact hva, hC, hn, hv', d, od, rfl, .inl ⟨[], upd_same, ?_⟩⟩
            refine ⟨fun i _ σ' H' => i = 0 ∧ σ' = σ ∧ H' = upd H d (.frz od (.dK [])), ⟨0, rfl, rfl, rfl⟩, ?_⟩
            rintro i m σ' H' ⟨rfl, rfl, rfl⟩
            refine .inl ⟨⟨upd_same, Nat.le_refl _⟩, upd_same, ?_⟩
            rw [upd_back hu]
            exact holds.ok (a := Fl.nx S) h at_.m _ at_.s
          · exact h.elim
        · exact h.elim
      · exact h.elim
    · exact h.elim
end
theorem bind_Deed_init {K : PySem.W.Frag} (fd : FuncData) (F : FunD K d_x_Deed_init.name d_x_Deed_init.qual d_x_Deed_init.params d_x_Deed_init.body d_x_Deed_init.scope (d_x_Deed_init.dvs K) (d_x_Deed_init.kws K) (He.fAd K d_x_Deed_init.at_) fd) : Binds K fd ["self", "kind", "who", "words", "count"] [] := by
  obtain ⟨ds, h1, h2⟩ := FunD.binds1 (ps := ["self", "kind", "who", "words", "count"]) F 5 2 (by intro z; cases z) (by rfl) fun T kV doc pm an cdv ct us its hl hl2 => by
    match us, hl, its, hl2 with
    | [_, _, _, _, _], _, [_, _], _ => exact ⟨_, rfl, rfl⟩
  have : ds = [] := by
    cases h1
    rfl
  rw [this] at h2
  exact h2
end K33
namespace K33
open PySem PySem.Spec PyProof.Rows L2
theorem sc_check_list : FnScope ["order", "many", "found", "one"] ["order", "many"] d_x_check_list.scope := ⟨rfl, rfl, rfl, by decide +kernel, rfl, by decide +kernel, by decide +kernel⟩
theorem ok_check_list {P : Program} {w : World} {K : PySem.W.Frag} {mg : Str → Option Value} {base : Heap} (T : Gd K mg base) : FnG P w K mg base d_x_check_list.at_ 4 ["order", "many"] 2 k_check_list :=
  T.fun_ (d := d_x_check_list) 0 (by rfl) sc_check_list rfl (fun cdv A outer s H E hcd hr tk hx hp => have hN := sc_check_list.nd; (d_scons (dset 2 hN (d_callTy call_tuple_of p_tuple (glk (by kernel_rfl)) (by exact T.free 0) (by kernel_rfl) (d_cons dv d_nil))) (d_scons (d_sif (d_tcmp (op_neD (hu64 hr)) p_ne (d_callB call_lenA p_len (glk (by kernel_rfl)) (by exact T.free 2) (by kernel_rfl) (d_cons (d_callTy (call_dictA rfl) p_dict (glk (by kernel_rfl)) (by exact T.free 1) (by kernel_rfl) (d_cons (d_lc rfl hN (d_wt dv) (blkOk_by (own := [("one", 3)]) (by kernel_rfl)) (by decide) (fun s H C cl fp => (dgn hN)) (fun s H C cl fp => d_ts0) (fun s H C cl fp => (d_tup (d_cons dv (d_cons d_int d_nil))))) d_nil)) d_nil)) (d_callB call_lenA p_len (glk (by kernel_rfl)) (by exact T.free 2) (by kernel_rfl) (d_cons dv d_nil))) (d_scons (w_raise (c := 1) rfl tk (T.exc 3) (glk (by kernel_rfl)) (by exact T.glo 4)) d_snil) d_snil) (d_scons (d_sif (d_valB (d_gx1 (cn := .any) (glk (by kernel_rfl)) (by exact T.free 5) (T.gx (own := [("one", 3)]) 0 0 hcd hN (rm hr)) (T.tm 0) (by decide) (d_wt dv) (by intro _; rfl) (fun s H cl C cv A1 fp pn hrg => (dgn hN)) (fun s H cl C cv A1 fp pn hrg => d_ts0) (fun s H cl C cv A1 fp pn hrg => (d_notV (d_chain op_le p_cmp op_lt p_cmp d_int dv dv))))) d_noSs d_snil) (d_scons (d_sret dv) d_snil)))))
    (fun fd F => F.bindsN fun _ _ _ _ _ _ us hl => match us, hl with | [_, _], _ => rfl)
theorem sc_check_groups : FnScope ["groups", "many", "found", "group", "one"] ["groups", "many"] d_x_check_groups.scope := ⟨rfl, rfl, rfl, by decide +kernel, rfl, by decide +kernel, by decide +kernel⟩
theorem ok_check_groups {P : Program} {w : World} {K : PySem.W.Frag} {mg : Str → Option Value} {base : Heap} (T : Gd K mg base) : FnG P w K mg base d_x_check_groups.at_ 5 ["groups", "many"] 2 k_check_groups :=
  T.fun_ (d := d_x_check_groups) 1 (by rfl) sc_check_groups rfl (fun cdv A outer s H E hcd hr tk hx hp => have hN := sc_check_groups.nd; (d_scons (dset 2 hN (d_callTy call_tuple_of p_tuple (glk (by kernel_rfl)) (by exact T.free 0) (by kernel_rfl) (d_cons (d_lc rfl hN (d_wl dv) (blkOk_by (own := [("group", 3)]) (by kernel_rfl)) (by decide) (fun s H C cl fp => (dgn hN)) (fun s H C cl fp => d_ts0) (fun s H C cl fp => (d_callTy call_tuple_of p_tuple (glk (by kernel_rfl)) (by exact T.free 0) (by kernel_rfl) (d_cons (d_callB (call_sortA rfl) p_sorted (glk (by kernel_rfl)) (by exact T.free 6) (by kernel_rfl) (d_cons dv d_nil)) d_nil)))) d_nil))) (d_scons (d_sif (d_valB (d_gx1 (cn := .any) (glk (by kernel_rfl)) (by exact T.free 5) (T.gx (own := [("group", 3)]) 1 0 hcd hN (rm hr)) (T.tm 1) (by decide) (d_wt dv) (by intro _; rfl) (fun s H cl C cv A1 fp pn hrg => (dgn hN)) (fun s H cl C cv A1 fp pn hrg => d_ts0) (fun s H cl C cv A1 fp pn hrg => (d_cmp (op_eqD (hu64 hrg)) p_eq dv (d_tup d_nil))))) d_noSs d_snil) (d_scons (d_sexpr (w_call (ok_check_list T) (rm hr) (glk (by kernel_rfl)) (by exact T.glo 7) hx (d_cons (d_lc2 (vs1 := [4]) rfl hN (d_wt dv) (blkOk_by (own := [("group", 3), ("one", 4)]) (by kernel_rfl)) (by decide) (by decide) (by decide) (fun s H C cl fp => (dgn hN)) (fun s H C cl fp => d_ts0) (fun s H C cl fp => (d_wt dv)) (fun s H C cl fp => (dgn hN)) (fun s H C cl fp => d_ts0) (fun s H C cl fp => dv)) (d_cons dv d_nil)))) (d_scons (d_sret dv) d_snil)))))
    (fun fd F => F.bindsN fun _ _ _ _ _ _ us hl => match us, hl with | [_, _], _ => rfl)
theorem sc_broken : FnScope ["groups", "draw", "places", "found", "group", "one", "place"] ["groups", "draw"] d_x_broken.scope := ⟨rfl, rfl, rfl, by decide +kernel, rfl, by decide +kernel, by decide +kernel⟩
theorem ok_broken {P : Program} {w : World} {K : PySem.W.Frag} {mg : Str → Option Value} {base : Heap} (T : Gd K mg base) : FnG P w K mg base d_x_broken.at_ 4 ["groups", "draw"] 2 k_broken :=
  T.fun_ (d := d_x_broken) 2 (by rfl) sc_broken rfl (fun cdv A outer s H E hcd hr tk hx hp => have hN := sc_broken.nd; (d_scons (dset 2 hN (d_callTy (call_dictA rfl) p_dict (glk (by kernel_rfl)) (by exact T.free 1) (by kernel_rfl) (d_cons (d_lc rfl hN (d_wel (glk (by kernel_rfl)) (by exact T.free 8) (d_cons dv d_nil)) (blkOk_by (own := [("place", 6), ("one", 5)]) (by kernel_rfl)) (by decide) (fun s H C cl fp => (d_gtup rfl (d_gcons (dgn hN) (d_gcons (dgn hN) d_gnil)))) (fun s H C cl fp => d_ts0) (fun s H C cl fp => d_noE)) d_nil))) (d_scons (d_sif (d_valB (d_gx2 (vs1 := [5]) (cn := .any) (glk (by kernel_rfl)) (by exact T.free 5) (T.gx (own := [("group", 4), ("one", 5)]) 2 0 hcd hN (rm hr)) (T.tm 2) (by decide) (by decide) (by decide) (d_wl dv) (by intro _; rfl) (fun s H cl C cv A1 fp pn hrg => (dgn hN)) (fun s H cl C cv A1 fp pn hrg => d_ts0) (fun s H cl C cv A1 fp pn hrg => (d_wt dv)) (fun s H cl C cv A1 fp pn hrg => (dgn hN)) (fun s H cl C cv A1 fp pn hrg => d_ts0) (fun s H cl C cv A1 fp pn hrg => (d_dnotin (hu1 hrg) dv dv)))) (d_scons (w_raise (c := 1) rfl tk (T.exc 3) (glk (by kernel_rfl)) (by exact T.glo 4)) d_snil) d_snil) d_noSs)))
    (fun fd F => F.bindsN fun _ _ _ _ _ _ us hl => match us, hl with | [_, _], _ => rfl)
theorem sc_group_ranks : FnScope ["groups", "one", "number", "group"] ["groups"] d_x_group_ranks.scope := ⟨rfl, rfl, rfl, by decide +kernel, rfl, by decide +kernel, by decide +kernel⟩
theorem ok_group_ranks {P : Program} {w : World} {K : PySem.W.Frag} {mg : Str → Option Value} {base : Heap} (T : Gd K mg base) : FnG P w K mg base d_x_group_ranks.at_ 1 ["groups"] 1 k_group_ranks :=
  T.fun_ (d := d_x_group_ranks) 3 (by rfl) sc_group_ranks rfl (fun cdv A outer s H E hcd hr tk hx hp => have hN := sc_group_ranks.nd; (d_scons (d_sret (d_callTy (call_dictA rfl) p_dict (glk (by kernel_rfl)) (by exact T.free 1) (by kernel_rfl) (d_cons (d_lc2 (vs1 := [1]) rfl hN (d_wet (glk (by kernel_rfl)) (by exact T.free 8) (d_cons dv d_nil)) (blkOk_by (own := [("number", 2), ("group", 3), ("one", 1)]) (by kernel_rfl)) (by decide) (by decide) (by decide) (fun s H C cl fp => (d_gtup rfl (d_gcons (dgn hN) (d_gcons (dgn hN) d_gnil)))) (fun s H C cl fp => d_ts0) (fun s H C cl fp => (d_wt dv)) (fun s H C cl fp => (dgn hN)) (fun s H C cl fp => d_ts0) (fun s H C cl fp => (d_tup (d_cons dv (d_cons dv d_nil))))) d_nil))) d_snil))
    (fun fd F => F.bindsN fun _ _ _ _ _ _ us hl => match us, hl with | [_], _ => rfl)
theorem sc_all_lists : FnScope ["many", "found", "fresh", "turn", "order", "one"] ["many"] d_x_all_lists.scope := ⟨rfl, rfl, rfl, by decide +kernel, rfl, by decide +kernel, by decide +kernel⟩
theorem ok_all_lists {P : Program} {w : World} {K : PySem.W.Frag} {mg : Str → Option Value} {base : Heap} (T : Gd K mg base) : FnG P w K mg base d_x_all_lists.at_ 1 ["many"] 1 k_all_lists :=
  T.fun_ (d := d_x_all_lists) 4 (by rfl) sc_all_lists rfl (fun cdv A outer s H E hcd hr tk hx hp => have hN := sc_all_lists.nd; (d_scons (d_sif (d_tcmp op_gt p_cmp dv d_int) (d_scons (w_raise (c := 5) rfl tk (T.exc 9) (glk (by kernel_rfl)) (by exact T.glo 10)) d_snil) d_snil) d_noSs))
    (fun fd F => F.bindsN fun _ _ _ _ _ _ us hl => match us, hl with | [_], _ => rfl)
theorem sc_Market_size : FnScope ["self"] ["self"] d_x_Market_size.scope := ⟨rfl, rfl, rfl, by decide +kernel, rfl, by decide +kernel, by decide +kernel⟩
theorem ok_Market_size {P : Program} {w : World} {K : PySem.W.Frag} {mg : Str → Option Value} {base : Heap} (T : Gd K mg base) : FnG P w K mg base d_x_Market_size.at_ 1 ["self"] 1 k_Market_size :=
  T.fun_ (d := d_x_Market_size) 5 (by rfl) sc_Market_size rfl (fun cdv A outer s H E hcd hr tk hx hp => have hN := sc_Market_size.nd; (d_scons (d_sret (d_callB call_lenA p_len (glk (by kernel_rfl)) (by exact T.free 2) (by kernel_rfl) (d_cons (d_fld (T.cls 11) (T.noat 12) dv) d_nil))) d_snil))
    (fun fd F => F.bindsN fun _ _ _ _ _ _ us hl => match us, hl with | [_], _ => rfl)
theorem sc_check_match : FnScope ["market", "match", "found", "room", "count", "one"] ["market", "match"] d_x_check_match.scope := ⟨rfl, rfl, rfl, by decide +kernel, rfl, by decide +kernel, by decide +kernel⟩
theorem ok_check_match {P : Program} {w : World} {K : PySem.W.Frag} {mg : Str → Option Value} {base : Heap} (T : Gd K mg base) : FnG P w K mg base d_x_check_match.at_ 4 ["market", "match"] 2 k_check_match :=
  T.fun_ (d := d_x_check_match) 6 (by rfl) sc_check_match rfl (fun cdv A outer s H E hcd hr tk hx hp => have hN := sc_check_match.nd; (d_scons (dset 2 hN (d_callTy call_tuple_of p_tuple (glk (by kernel_rfl)) (by exact T.free 0) (by kernel_rfl) (d_cons dv d_nil))) (d_scons (d_sif (PW.pt (d_or (d_tcmp (op_neD (hu64 hr)) p_ne (d_callB call_lenA p_len (glk (by kernel_rfl)) (by exact T.free 2) (by kernel_rfl) (d_cons dv d_nil)) (w_meth0 (c := 11) dv (T.cls 11) (T.meth 13) (ok_Market_size T) (rm hr) hx)) (d_or1 (d_valB (d_gx1 (cn := .any) (glk (by kernel_rfl)) (by exact T.free 5) (T.gx (own := [("room", 3)]) 3 0 hcd hN (rm hr)) (T.tm 3) (by decide) (d_wt dv) (by intro _; rfl) (fun s H cl C cv A1 fp pn hrg => (dgn hN)) (fun s H cl C cv A1 fp pn hrg => d_ts0) (fun s H cl C cv A1 fp pn hrg => (d_andV (d_cmp op_notN p_notN dv d_non) (d_oneV (d_notV (d_chain op_le p_cmp op_lt p_cmp d_int dv (d_callB call_lenA p_len (glk (by kernel_rfl)) (by exact T.free 2) (by kernel_rfl) (d_cons (d_fld (T.cls 11) (T.noat 14) dv) d_nil)))))))))))) (d_scons (w_raise (c := 3) rfl tk (T.exc 15) (glk (by kernel_rfl)) (by exact T.glo 16)) d_snil) d_snil) (d_scons (d_sfor hp rfl (d_wet (glk (by kernel_rfl)) (by exact T.free 8) (d_cons (d_fld (T.cls 11) (T.noat 17) dv) d_nil)) (d_gtup rfl (d_gcons (dgn hN) (d_gcons (dgn hN) d_gnil))) (d_scons (d_sif (d_tcmp op_gt p_cmp (d_callB call_lenA p_len (glk (by kernel_rfl)) (by exact T.free 2) (by kernel_rfl) (d_cons (d_lc rfl hN (d_wt dv) (blkOk_by (own := [("one", 5)]) (by kernel_rfl)) (by decide) (fun s H C cl fp => (dgn hN)) (fun s H C cl fp => (d_ts1 (d_tcmp (op_eqD (hu64 hr)) p_eq dv dv))) (fun s H C cl fp => dv)) d_nil)) dv) (d_scons (w_raise (c := 3) rfl tk (T.exc 15) (glk (by kernel_rfl)) (by exact T.glo 16)) d_snil) d_snil) d_snil)) (d_scons (d_sret dv) d_snil)))))
    (fun fd F => F.bindsN fun _ _ _ _ _ _ us hl => match us, hl with | [_, _], _ => rfl)
theorem sc_those_in : FnScope ["match", "room", "asker", "one"] ["match", "room"] d_x_those_in.scope := ⟨rfl, rfl, rfl, by decide +kernel, rfl, by decide +kernel, by decide +kernel⟩
theorem ok_those_in {P : Program} {w : World} {K : PySem.W.Frag} {mg : Str → Option Value} {base : Heap} (T : Gd K mg base) : FnG P w K mg base d_x_those_in.at_ 1 ["match", "room"] 2 k_those_in :=
  T.fun_ (d := d_x_those_in) 7 (by rfl) sc_those_in rfl (fun cdv A outer s H E hcd hr tk hx hp => have hN := sc_those_in.nd; (d_scons (d_sret (d_callTy call_tuple_of p_tuple (glk (by kernel_rfl)) (by exact T.free 0) (by kernel_rfl) (d_cons (d_lc rfl hN (d_wet (glk (by kernel_rfl)) (by exact T.free 8) (d_cons dv d_nil)) (blkOk_by (own := [("asker", 2), ("one", 3)]) (by kernel_rfl)) (by decide) (fun s H C cl fp => (d_gtup rfl (d_gcons (dgn hN) (d_gcons (dgn hN) d_gnil)))) (fun s H C cl fp => (d_ts1 (d_tcmp (op_eqD (hu64 hr)) p_eq dv dv))) (fun s H C cl fp => d_noE)) d_nil))) d_snil))
    (fun fd F => F.bindsN fun _ _ _ _ _ _ us hl => match us, hl with | [_, _], _ => rfl)
theorem sc_unwanted : FnScope ["market", "match", "asker", "room"] ["market", "match"] d_x_unwanted.scope := ⟨rfl, rfl, rfl, by decide +kernel, rfl, by decide +kernel, by decide +kernel⟩
theorem ok_unwanted {P : Program} {w : World} {K : PySem.W.Frag} {mg : Str → Option Value} {base : Heap} (T : Gd K mg base) : FnG P w K mg base d_x_unwanted.at_ 1 ["market", "match"] 2 k_unwanted :=
  T.fun_ (d := d_x_unwanted) 8 (by rfl) sc_unwanted rfl (fun cdv A outer s H E hcd hr tk hx hp => have hN := sc_unwanted.nd; (d_scons (d_sret (d_callTy call_tuple_of p_tuple (glk (by kernel_rfl)) (by exact T.free 0) (by kernel_rfl) (d_cons (d_lc rfl hN (d_wet (glk (by kernel_rfl)) (by exact T.free 8) (d_cons dv d_nil)) (blkOk_by (own := [("asker", 2), ("room", 3)]) (by kernel_rfl)) (by decide) (fun s H C cl fp => (d_gtup rfl (d_gcons (dgn hN) (d_gcons (dgn hN) d_gnil)))) (fun s H C cl fp => (d_ts1 (PW.pt (d_and (d_tcmp op_notN p_notN dv d_non) d_noW)))) (fun s H C cl fp => d_noE)) d_nil))) d_snil))
    (fun fd F => F.bindsN fun _ _ _ _ _ _ us hl => match us, hl with | [_, _], _ => rfl)
theorem sc_Wish_has : FnScope ["self", "one"] ["self", "one"] d_x_Wish_has.scope := ⟨rfl, rfl, rfl, by decide +kernel, rfl, by decide +kernel, by decide +kernel⟩
theorem ok_Wish_has {P : Program} {w : World} {K : PySem.W.Frag} {mg : Str → Option Value} {base : Heap} (T : Gd K mg base) : FnG P w K mg base d_x_Wish_has.at_ 1 ["self", "one"] 2 k_Wish_has :=
  T.fun_ (d := d_x_Wish_has) 9 (by rfl) sc_Wish_has rfl (fun cdv A outer s H E hcd hr tk hx hp => have hN := sc_Wish_has.nd; (d_scons (d_sret (d_din (hu1 hr) dv (d_fld (T.cls 18) (T.noat 19) dv))) d_snil))
    (fun fd F => F.bindsN fun _ _ _ _ _ _ us hl => match us, hl with | [_, _], _ => rfl)
theorem sc_would_take : FnScope ["market", "match", "room", "asker", "inside", "other"] ["market", "match", "room", "asker"] d_x_would_take.scope := ⟨rfl, rfl, rfl, by decide +kernel, rfl, by decide +kernel, by decide +kernel⟩
theorem ok_would_take {P : Program} {w : World} {K : PySem.W.Frag} {mg : Str → Option Value} {base : Heap} (T : Gd K mg base) : FnG P w K mg base d_x_would_take.at_ 2 ["market", "match", "room", "asker"] 4 k_would_take :=
  T.fun_ (d := d_x_would_take) 10 (by rfl) sc_would_take rfl (fun cdv A outer s H E hcd hr tk hx hp => have hN := sc_would_take.nd; (d_scons (d_sif (PW.pt (d_or (d_not (d_valB (w_meth (c := 10) (d_ix (d_fld (T.cls 11) (T.noat 14) dv) dv) (T.cls 18) (T.meth 20) (ok_Wish_has T) (rm hr) hx (d_cons dv d_nil)))) (d_or1 (d_tcmp (op_eqD (hu64 hr)) p_eq (d_ix (d_fld (T.cls 11) (T.noat 17) dv) dv) d_int)))) d_noSs d_snil) (d_scons (dset 4 hN (w_call (ok_those_in T) (rm hr) (glk (by kernel_rfl)) (by exact T.glo 21) hx (d_cons dv (d_cons dv d_nil)))) (d_scons (d_sif (d_tcmp op_lt p_cmp (d_callB call_lenA p_len (glk (by kernel_rfl)) (by exact T.free 2) (by kernel_rfl) (d_cons dv d_nil)) (d_ix (d_fld (T.cls 11) (T.noat 17) dv) dv)) (d_scons (d_sret d_bl) d_snil) d_snil) d_noSs))))
    (fun fd F => F.bindsN fun _ _ _ _ _ _ us hl => match us, hl with | [_, _, _, _], _ => rfl)
theorem sc_Wish_rank : FnScope ["self", "one"] ["self", "one"] d_x_Wish_rank.scope := ⟨rfl, rfl, rfl, by decide +kernel, rfl, by decide +kernel, by decide +kernel⟩
theorem ok_Wish_rank {P : Program} {w : World} {K : PySem.W.Frag} {mg : Str → Option Value} {base : Heap} (T : Gd K mg base) : FnG P w K mg base d_x_Wish_rank.at_ 1 ["self", "one"] 2 k_Wish_rank :=
  T.fun_ (d := d_x_Wish_rank) 11 (by rfl) sc_Wish_rank rfl (fun cdv A outer s H E hcd hr tk hx hp => have hN := sc_Wish_rank.nd; (d_scons (d_sret (d_if (d_tcmp op_isN p_isN dv d_non) (d_callB call_lenA p_len (glk (by kernel_rfl)) (by exact T.free 2) (by kernel_rfl) (d_cons (d_fld (T.cls 18) (T.noat 22) dv) d_nil)) (d_get (hu1 hr) (d_fld (T.cls 18) (T.noat 19) dv) dv ⟨rfl, rfl, rfl, rfl⟩))) d_snil))
    (fun fd F => F.bindsN fun _ _ _ _ _ _ us hl => match us, hl with | [_, _], _ => rfl)
end K33
namespace K33
open PySem PySem.Spec PyProof.Rows L2
theorem sc_Wish_ahead_of : FnScope ["self", "one", "place"] ["self", "one"] d_x_Wish_ahead_of.scope := ⟨rfl, rfl, rfl, by decide +kernel, rfl, by decide +kernel, by decide +kernel⟩
theorem ok_Wish_ahead_of {P : Program} {w : World} {K : PySem.W.Frag} {mg : Str → Option Value} {base : Heap} (T : Gd K mg base) : FnG P w K mg base d_x_Wish_ahead_of.at_ 2 ["self", "one"] 2 k_Wish_ahead_of :=
  T.fun_ (d := d_x_Wish_ahead_of) 12 (by rfl) sc_Wish_ahead_of rfl (fun cdv A outer s H E hcd hr tk hx hp => have hN := sc_Wish_ahead_of.nd; (d_scons (dset 2 hN (w_meth (c := 10) dv (T.cls 18) (T.meth 23) (ok_Wish_rank T) (rm hr) hx (d_cons dv d_nil))) (d_scons (d_sret (d_if (d_tcmp op_isN p_isN dv d_non) d_noE (d_sl (d_fld (T.cls 18) (T.noat 22) dv) d_noPart (d_part dv)))) d_snil)))
    (fun fd F => F.bindsN fun _ _ _ _ _ _ us hl => match us, hl with | [_, _], _ => rfl)
theorem sc_blocks : FnScope ["market", "match", "found", "asker", "wish", "room"] ["market", "match"] d_x_blocks.scope := ⟨rfl, rfl, rfl, by decide +kernel, rfl, by decide +kernel, by decide +kernel⟩
theorem ok_blocks {P : Program} {w : World} {K : PySem.W.Frag} {mg : Str → Option Value} {base : Heap} (T : Gd K mg base) : FnG P w K mg base d_x_blocks.at_ 3 ["market", "match"] 2 k_blocks :=
  T.fun_ (d := d_x_blocks) 13 (by rfl) sc_blocks rfl (fun cdv A outer s H E hcd hr tk hx hp => have hN := sc_blocks.nd; (d_scons (dset 2 hN (d_lst d_nil)) (d_scons (d_sfor hp rfl (d_wel (glk (by kernel_rfl)) (by exact T.free 8) (d_cons (d_fld (T.cls 11) (T.noat 12) dv) d_nil)) (d_gtup rfl (d_gcons (dgn hN) (d_gcons (dgn hN) d_gnil))) (d_scons (d_sfor hp rfl (d_wt (w_meth (c := 10) dv (T.cls 18) (T.meth 24) (ok_Wish_ahead_of T) (rm hr) hx (d_cons (d_ix dv dv) d_nil))) (dgn hN) (d_scons (d_sif (PW.pt (d_and (d_tcmp (op_neD (hu64 hr)) p_ne dv (d_ix dv dv)) (d_and1 (d_valB (w_call (ok_would_take T) (rm hr) (glk (by kernel_rfl)) (by exact T.glo 25) hx (d_cons dv (d_cons dv (d_cons dv (d_cons dv d_nil))))))))) (d_scons (d_sexpr (d_bm lstTy F.plainAttrs_list F.slot_list_append F.type_list_append mtAppend p_append dv (d_cons (d_tup (d_cons dv (d_cons dv d_nil))) d_nil))) d_snil) d_snil) d_snil)) d_snil)) (d_scons (d_sret (d_callTy call_tuple_of p_tuple (glk (by kernel_rfl)) (by exact T.free 0) (by kernel_rfl) (d_cons dv d_nil))) d_snil))))
    (fun fd F => F.bindsN fun _ _ _ _ _ _ us hl => match us, hl with | [_, _], _ => rfl)
theorem sc_is_stable : FnScope ["market", "match"] ["market", "match"] d_x_is_stable.scope := ⟨rfl, rfl, rfl, by decide +kernel, rfl, by decide +kernel, by decide +kernel⟩
theorem ok_is_stable {P : Program} {w : World} {K : PySem.W.Frag} {mg : Str → Option Value} {base : Heap} (T : Gd K mg base) : FnG P w K mg base d_x_is_stable.at_ 5 ["market", "match"] 2 k_is_stable :=
  T.fun_ (d := d_x_is_stable) 14 (by rfl) sc_is_stable rfl (fun cdv A outer s H E hcd hr tk hx hp => have hN := sc_is_stable.nd; (d_scons (d_sexpr (w_call (ok_check_match T) (rm hr) (glk (by kernel_rfl)) (by exact T.glo 26) hx (d_cons dv (d_cons dv d_nil)))) (d_scons (d_sret (d_andV (d_cmp (op_eqD (hu64 hr)) p_eq (w_call (ok_unwanted T) (rm hr) (glk (by kernel_rfl)) (by exact T.glo 27) hx (d_cons dv (d_cons dv d_nil))) (d_tup d_nil)) (d_oneV (d_cmp (op_eqD (hu64 hr)) p_eq (w_call (ok_blocks T) (rm hr) (glk (by kernel_rfl)) (by exact T.glo 28) hx (d_cons dv (d_cons dv d_nil))) (d_tup d_nil))))) d_snil)))
    (fun fd F => F.bindsN fun _ _ _ _ _ _ us hl => match us, hl with | [_, _], _ => rfl)
theorem sc_check_words : FnScope ["words", "found", "word"] ["words"] d_x_check_words.scope := ⟨rfl, rfl, rfl, by decide +kernel, rfl, by decide +kernel, by decide +kernel⟩
theorem ok_check_words {P : Program} {w : World} {K : PySem.W.Frag} {mg : Str → Option Value} {base : Heap} (T : Gd K mg base) : FnG P w K mg base d_x_check_words.at_ 1 ["words"] 1 k_check_words :=
  T.fun_ (d := d_x_check_words) 15 (by rfl) sc_check_words rfl (fun cdv A outer s H E hcd hr tk hx hp => have hN := sc_check_words.nd; (d_scons (dset 1 hN (d_callTy call_tuple_of p_tuple (glk (by kernel_rfl)) (by exact T.free 0) (by kernel_rfl) (d_cons dv d_nil))) (d_scons (d_sif (d_tcmp (op_neD (hu64 hr)) p_ne (d_callB call_lenA p_len (glk (by kernel_rfl)) (by exact T.free 2) (by kernel_rfl) (d_cons (d_callTy (call_dictA rfl) p_dict (glk (by kernel_rfl)) (by exact T.free 1) (by kernel_rfl) (d_cons (d_lc rfl hN (d_wt dv) (blkOk_by (own := [("word", 2)]) (by kernel_rfl)) (by decide) (fun s H C cl fp => (dgn hN)) (fun s H C cl fp => d_ts0) (fun s H C cl fp => (d_tup (d_cons dv (d_cons d_int d_nil))))) d_nil)) d_nil)) (d_callB call_lenA p_len (glk (by kernel_rfl)) (by exact T.free 2) (by kernel_rfl) (d_cons dv d_nil))) (d_scons (w_raise (c := 1) rfl tk (T.exc 3) (glk (by kernel_rfl)) (by exact T.glo 4)) d_snil) d_snil) (d_scons (d_sret dv) d_snil))))
    (fun fd F => F.bindsN fun _ _ _ _ _ _ us hl => match us, hl with | [_], _ => rfl)
theorem sc_parts : FnScope ["near", "start", "found", "seen", "part", "left", "here", "other"] ["near"] d_x_parts.scope := ⟨rfl, rfl, rfl, by decide +kernel, rfl, by decide +kernel, by decide +kernel⟩
theorem ok_parts {P : Program} {w : World} {K : PySem.W.Frag} {mg : Str → Option Value} {base : Heap} (T : Gd K mg base) : FnG P w K mg base d_x_parts.at_ 1 ["near"] 1 k_parts :=
  T.fun_ (d := d_x_parts) 16 (by rfl) sc_parts rfl (fun cdv A outer s H E hcd hr tk hx hp => have hN := sc_parts.nd; (d_scons (dpar2 hN (d_cons (d_lst d_nil) (d_cons d_dnew d_nil))) (d_scons (d_sfor hp rfl (d_wl (d_callB (call_sortA rfl) p_sorted (glk (by kernel_rfl)) (by exact T.free 6) (by kernel_rfl) (d_cons dv d_nil))) (dgn hN) (d_scons (d_sif (d_tdnotin (hu1 hr) dv dv) (d_scons (dpar2 hN (d_cons (d_lst d_nil) (d_cons (d_lst (d_cons dv d_nil)) d_nil))) (d_scons (d_putD (hu1 hr) dv dv d_int) (d_scons (d_swhile hp (d_tcmp (op_neD (hu64 hr)) p_ne dv (d_lst d_nil)) (d_scons (dset 6 hN (d_bm0 lstTy F.plainAttrs_list F.slot_list_pop F.type_list_pop mtPop p_pop dv)) (d_scons (d_sexpr (d_bm lstTy F.plainAttrs_list F.slot_list_append F.type_list_append mtAppend p_append dv (d_cons dv d_nil))) (d_scons (d_sfor hp rfl (d_wl (d_dix (hu1 hr) dv dv)) (dgn hN) (d_scons (d_sif (d_tdnotin (hu1 hr) dv dv) (d_scons (d_putD (hu1 hr) dv dv d_int) (d_scons (d_sexpr (d_bm lstTy F.plainAttrs_list F.slot_list_append F.type_list_append mtAppend p_append dv (d_cons dv d_nil))) d_snil)) d_snil) d_snil)) d_snil)))) (d_scons (d_sexpr (d_bm lstTy F.plainAttrs_list F.slot_list_append F.type_list_append mtAppend p_append dv (d_cons (d_callTy call_tuple_of p_tuple (glk (by kernel_rfl)) (by exact T.free 0) (by kernel_rfl) (d_cons (d_callB (call_sortA rfl) p_sorted (glk (by kernel_rfl)) (by exact T.free 6) (by kernel_rfl) (d_cons dv d_nil)) d_nil)) d_nil))) d_snil)))) d_snil) d_snil)) (d_scons (d_sret (d_callTy call_tuple_of p_tuple (glk (by kernel_rfl)) (by exact T.free 0) (by kernel_rfl) (d_cons dv d_nil))) d_snil))))
    (fun fd F => F.bindsN fun _ _ _ _ _ _ us hl => match us, hl with | [_], _ => rfl)
theorem sc_Friends_without : FnScope ["self", "gone", "left", "one", "other"] ["self", "gone"] d_x_Friends_without.scope := ⟨rfl, rfl, rfl, by decide +kernel, rfl, by decide +kernel, by decide +kernel⟩
theorem ok_Friends_without {P : Program} {w : World} {K : PySem.W.Frag} {mg : Str → Option Value} {base : Heap} (T : Gd K mg base) : FnG P w K mg base d_x_Friends_without.at_ 1 ["self", "gone"] 2 k_Friends_without :=
  T.fun_ (d := d_x_Friends_without) 17 (by rfl) sc_Friends_without rfl (fun cdv A outer s H E hcd hr tk hx hp => have hN := sc_Friends_without.nd; (d_scons (d_setLc (j := 2) rfl hN rfl rfl rfl (d_wr1 (glk (by kernel_rfl)) (by exact T.free 31) (d_cons (d_fld (T.cls 29) (T.noat 30) dv) d_nil)) (blkOk_by (own := [("one", 3)]) (by kernel_rfl)) (by decide) (fun s H C cl fp => (dgn hN)) (fun s H C cl fp => (d_ts1 (d_tcmp op_ninAll p_in dv dv))) (fun s H C cl fp => dv)) (d_scons (d_sret (d_callTy (call_dictA rfl) p_dict (glk (by kernel_rfl)) (by exact T.free 1) (by kernel_rfl) (d_cons (d_lc rfl hN (d_wl dv) (blkOk_by (own := [("one", 3)]) (by kernel_rfl)) (by decide) (fun s H C cl fp => (dgn hN)) (fun s H C cl fp => d_ts0) (fun s H C cl fp => (d_tup (d_cons dv (d_cons (d_lc rfl hN (d_wl (d_ix (d_fld (T.cls 29) (T.noat 32) dv) dv)) (blkOk_by (own := [("other", 4)]) (by kernel_rfl)) (by decide) (fun s H C cl fp => (dgn hN)) (fun s H C cl fp => (d_ts1 (d_tcmp op_ninAll p_in dv dv))) (fun s H C cl fp => dv)) d_nil))))) d_nil))) d_snil)))
    (fun fd F => F.bindsN fun _ _ _ _ _ _ us hl => match us, hl with | [_, _], _ => rfl)
theorem sc_odd_parts : FnScope ["friends", "gone", "part"] ["friends", "gone"] d_x_odd_parts.scope := ⟨rfl, rfl, rfl, by decide +kernel, rfl, by decide +kernel, by decide +kernel⟩
theorem ok_odd_parts {P : Program} {w : World} {K : PySem.W.Frag} {mg : Str → Option Value} {base : Heap} (T : Gd K mg base) : FnG P w K mg base d_x_odd_parts.at_ 2 ["friends", "gone"] 2 k_odd_parts :=
  T.fun_ (d := d_x_odd_parts) 18 (by rfl) sc_odd_parts rfl (fun cdv A outer s H E hcd hr tk hx hp => have hN := sc_odd_parts.nd; (d_scons (d_sret (d_callB call_lenA p_len (glk (by kernel_rfl)) (by exact T.free 2) (by kernel_rfl) (d_cons (d_lc rfl hN (d_wt (w_call (ok_parts T) (rm hr) (glk (by kernel_rfl)) (by exact T.glo 34) hx (d_cons (w_meth (c := 13) dv (T.cls 29) (T.meth 33) (ok_Friends_without T) (rm hr) hx (d_cons dv d_nil)) d_nil))) (blkOk_by (own := [("part", 2)]) (by kernel_rfl)) (by decide) (fun s H C cl fp => (dgn hN)) (fun s H C cl fp => (d_ts1 (d_tcmp (op_eqD (hu64 hr)) p_eq (d_op op_mod (p_intC fun _ _ h => of_decide_eq_true h) (d_callB call_lenA p_len (glk (by kernel_rfl)) (by exact T.free 2) (by kernel_rfl) (d_cons dv d_nil)) d_int) d_int))) (fun s H C cl fp => d_noE)) d_nil))) d_snil))
    (fun fd F => F.bindsN fun _ _ _ _ _ _ us hl => match us, hl with | [_, _], _ => rfl)
theorem sc_check_mates : FnScope ["friends", "mates", "lot", "alone", "one", "other"] ["friends", "mates", "lot"] d_x_check_mates.scope := ⟨rfl, rfl, rfl, by decide +kernel, rfl, by decide +kernel, by decide +kernel⟩
theorem ok_check_mates {P : Program} {w : World} {K : PySem.W.Frag} {mg : Str → Option Value} {base : Heap} (T : Gd K mg base) : FnG P w K mg base d_x_check_mates.at_ 4 ["friends", "mates", "lot"] 3 k_check_mates :=
  T.fun_ (d := d_x_check_mates) 19 (by rfl) sc_check_mates rfl (fun cdv A outer s H E hcd hr tk hx hp => have hN := sc_check_mates.nd; (d_scons (d_sif (d_tcmp (op_neD (hu64 hr)) p_ne (d_callB call_lenA p_len (glk (by kernel_rfl)) (by exact T.free 2) (by kernel_rfl) (d_cons dv d_nil)) (d_fld (T.cls 29) (T.noat 30) dv)) d_noSs d_snil) (d_scons (d_sfor hp rfl (d_wet (glk (by kernel_rfl)) (by exact T.free 8) (d_cons dv d_nil)) (d_gtup rfl (d_gcons (dgn hN) (d_gcons (dgn hN) d_gnil))) (d_scons (d_sif (PW.pt (d_and (d_tcmp op_notN p_notN dv d_non) d_noW)) d_noSs d_snil) d_snil)) (d_scons (d_sif (d_valB (d_gx1 (cn := .any) (glk (by kernel_rfl)) (by exact T.free 5) (T.gx (own := [("one", 4)]) 4 0 hcd hN (rm hr)) (T.tm 4) (by decide) (d_wt dv) (by intro _; rfl) (fun s H cl C cv A1 fp pn hrg => (dgn hN)) (fun s H cl C cv A1 fp pn hrg => d_ts0) (fun s H cl C cv A1 fp pn hrg => d_noE))) d_noSs d_snil) (d_scons (dset 3 hN (d_callB call_lenA p_len (glk (by kernel_rfl)) (by exact T.free 2) (by kernel_rfl) (d_cons (d_lc rfl hN (d_wt dv) (blkOk_by (own := [("one", 4)]) (by kernel_rfl)) (by decide) (fun s H C cl fp => (dgn hN)) (fun s H C cl fp => (d_ts1 (d_tcmp op_isN p_isN dv d_non))) (fun s H C cl fp => dv)) d_nil))) (d_scons (d_sif (PW.pt (d_or (d_tcmp (op_neD (hu64 hr)) p_ne (d_callB call_lenA p_len (glk (by kernel_rfl)) (by exact T.free 2) (by kernel_rfl) (d_cons (d_callTy (call_dictA rfl) p_dict (glk (by kernel_rfl)) (by exact T.free 1) (by kernel_rfl) (d_cons (d_lc rfl hN (d_wt dv) (blkOk_by (own := [("one", 4)]) (by kernel_rfl)) (by decide) (fun s H C cl fp => (dgn hN)) (fun s H C cl fp => d_ts0) (fun s H C cl fp => d_noE)) d_nil)) d_nil)) (d_callB call_lenA p_len (glk (by kernel_rfl)) (by exact T.free 2) (by kernel_rfl) (d_cons dv d_nil))) (d_or1 (d_tcmp (op_neD (hu64 hr)) p_ne (d_op op_sub p_int (w_call (ok_odd_parts T) (rm hr) (glk (by kernel_rfl)) (by exact T.glo 35) hx (d_cons dv (d_cons dv d_nil))) (d_callB call_lenA p_len (glk (by kernel_rfl)) (by exact T.free 2) (by kernel_rfl) (d_cons dv d_nil))) dv)))) (d_scons (w_raise (c := 4) rfl tk (T.exc 36) (glk (by kernel_rfl)) (by exact T.glo 37)) d_snil) d_snil) d_noSs))))))
    (fun fd F => F.bindsN fun _ _ _ _ _ _ us hl => match us, hl with | [_, _, _], _ => rfl)
theorem sc_is_word : FnScope ["word"] ["word"] d_x_is_word.scope := ⟨rfl, rfl, rfl, by decide +kernel, rfl, by decide +kernel, by decide +kernel⟩
theorem ok_is_word {P : Program} {w : World} {K : PySem.W.Frag} {mg : Str → Option Value} {base : Heap} (T : Gd K mg base) : FnG P w K mg base d_x_is_word.at_ 1 ["word"] 1 k_is_word :=
  T.fun_ (d := d_x_is_word) 20 (by rfl) sc_is_word rfl (fun cdv A outer s H E hcd hr tk hx hp => have hN := sc_is_word.nd; (d_scons (d_sret (d_andV (d_cmp (op_neD (hu64 hr)) p_ne dv d_str) (d_andV (d_cmp op_inAll p_in (d_ix dv d_int) (wgstr rfl (T.fstr 38))) (d_oneV (d_cmp (op_eqD (hu64 hr)) p_eq (d_bm strTy F.plainAttrs_str F.slot_str_strip F.type_str_strip mt_stripChars p_strip dv (d_cons (wgstr rfl (T.fstr 39)) d_nil)) d_str))))) d_snil))
    (fun fd F => F.bindsN fun _ _ _ _ _ _ us hl => match us, hl with | [_], _ => rfl)
theorem sc_words_of : FnScope ["line", "found", "word"] ["line"] d_x_words_of.scope := ⟨rfl, rfl, rfl, by decide +kernel, rfl, by decide +kernel, by decide +kernel⟩
theorem ok_words_of {P : Program} {w : World} {K : PySem.W.Frag} {mg : Str → Option Value} {base : Heap} (T : Gd K mg base) : FnG P w K mg base d_x_words_of.at_ 5 ["line"] 1 k_words_of :=
  T.fun_ (d := d_x_words_of) 21 (by rfl) sc_words_of rfl (fun cdv A outer s H E hcd hr tk hx hp => have hN := sc_words_of.nd; (d_scons (d_setLc (j := 1) rfl hN rfl rfl rfl (d_wl (d_bm strTy F.plainAttrs_str F.slot_str_split F.type_str_split mt_split p_split dv (d_cons d_str d_nil))) (blkOk_by (own := [("word", 2)]) (by kernel_rfl)) (by decide) (fun s H C cl fp => (dgn hN)) (fun s H C cl fp => (d_ts1 (d_tcmp (op_neD (hu64 hr)) p_ne dv d_str))) (fun s H C cl fp => dv)) (d_scons (d_sif (d_valB (d_gx1 (cn := .any) (glk (by kernel_rfl)) (by exact T.free 5) (T.gx (own := [("word", 2)]) 5 1 hcd hN (rm hr)) (T.tm 5) (by decide) (d_wl dv) (by intro _; rfl) (fun s H cl C cv A1 fp pn hrg => (dgn hN)) (fun s H cl C cv A1 fp pn hrg => d_ts0) (fun s H cl C cv A1 fp pn hrg => (d_andV (d_notV (w_call (ok_is_word T) (rm hrg) (glk (by kernel_rfl)) (by exact T.glo 40) passNo (d_cons dv d_nil))) d_noE)))) d_noSs d_snil) (d_scons (d_sret dv) d_snil))))
    (fun fd F => F.bindsN fun _ _ _ _ _ _ us hl => match us, hl with | [_], _ => rfl)
theorem sc_all_words : FnScope ["words", "word"] ["words"] d_x_all_words.scope := ⟨rfl, rfl, rfl, by decide +kernel, rfl, by decide +kernel, by decide +kernel⟩
theorem ok_all_words {P : Program} {w : World} {K : PySem.W.Frag} {mg : Str → Option Value} {base : Heap} (T : Gd K mg base) : FnG P w K mg base d_x_all_words.at_ 5 ["words"] 1 k_all_words :=
  T.fun_ (d := d_x_all_words) 22 (by rfl) sc_all_words rfl (fun cdv A outer s H E hcd hr tk hx hp => have hN := sc_all_words.nd; (d_scons (d_sif (d_valB (d_gx1 (cn := .any) (glk (by kernel_rfl)) (by exact T.free 5) (T.gx (own := [("word", 1)]) 6 1 hcd hN (rm hr)) (T.tm 6) (by decide) (d_wl dv) (by intro _; rfl) (fun s H cl C cv A1 fp pn hrg => (dgn hN)) (fun s H cl C cv A1 fp pn hrg => d_ts0) (fun s H cl C cv A1 fp pn hrg => (d_notV (w_call (ok_is_word T) (rm hrg) (glk (by kernel_rfl)) (by exact T.glo 40) passNo (d_cons dv d_nil)))))) d_noSs d_snil) (d_scons (d_sret dv) d_snil)))
    (fun fd F => F.bindsN fun _ _ _ _ _ _ us hl => match us, hl with | [_], _ => rfl)
theorem sc_read_row : FnScope ["fair", "line", "words", "head", "mark", "rest"] ["fair", "line"] d_x_read_row.scope := ⟨rfl, rfl, rfl, by decide +kernel, rfl, by decide +kernel, by decide +kernel⟩
theorem ok_read_row {P : Program} {w : World} {K : PySem.W.Frag} {mg : Str → Option Value} {base : Heap} (T : Gd K mg base) : FnG P w K mg base d_x_read_row.at_ 6 ["fair", "line"] 2 k_read_row :=
  T.fun_ (d := d_x_read_row) 23 (by rfl) sc_read_row rfl (fun cdv A outer s H E hcd hr tk hx hp => have hN := sc_read_row.nd; (d_scons (d_sasg (d_bm strTy F.plainAttrs_str F.slot_str_partition F.type_str_partition mt_partition p_part dv (d_cons d_str d_nil)) (d_gtup rfl (d_gcons (dgn hN) (d_gcons (dgn hN) (d_gcons (dgn hN) d_gnil))))) (d_scons (dset 2 hN (w_call (ok_words_of T) (rm hr) (glk (by kernel_rfl)) (by exact T.glo 41) hx (d_cons dv d_nil))) (d_scons (d_sif (PW.pt (d_or (d_tcmp (op_eqD (hu64 hr)) p_eq dv d_str) d_noW)) (d_scons (w_raise (c := 6) rfl tk (T.exc 42) (glk (by kernel_rfl)) (by exact T.glo 43)) d_snil) d_snil) d_noSs))))
    (fun fd F => F.bindsN fun _ _ _ _ _ _ us hl => match us, hl with | [_, _], _ => rfl)
end K33
namespace K33
open PySem PySem.Spec PyProof.Rows L2
theorem sc_Fair_init : FnScope ["self"] ["self"] d_x_Fair_init.scope := ⟨rfl, rfl, rfl, by decide +kernel, rfl, by decide +kernel, by decide +kernel⟩
theorem ok_Fair_init {P : Program} {w : World} {K : PySem.W.Frag} {mg : Str → Option Value} {base : Heap} (T : Gd K mg base) : FnG P w K mg base d_x_Fair_init.at_ 1 ["self"] 1 k_Fair_init :=
  T.fun_ (d := d_x_Fair_init) 24 (by rfl) sc_Fair_init rfl (fun cdv A outer s H E hcd hr tk hx hp => have hN := sc_Fair_init.nd; (d_scons (d_setF (T.cls 44) (T.noat 45) dv d_dnew) (d_scons (d_setF (T.cls 44) (T.noat 46) dv d_dnew) (d_scons (d_setF (T.cls 44) (T.noat 47) dv d_dnew) (d_scons (d_setF (T.cls 44) (T.noat 48) dv d_dnew) (d_scons (d_setF (T.cls 44) (T.noat 49) dv d_dnew) (d_scons (d_setF (T.cls 44) (T.noat 50) dv d_int) d_snil)))))))
    (fun fd F => F.bindsN fun _ _ _ _ _ _ us hl => match us, hl with | [_], _ => rfl)
theorem sc_read : FnScope ["text", "fair", "line"] ["text"] d_x_read.scope := ⟨rfl, rfl, rfl, by decide +kernel, rfl, by decide +kernel, by decide +kernel⟩
theorem ok_read {P : Program} {w : World} {K : PySem.W.Frag} {mg : Str → Option Value} {base : Heap} (T : Gd K mg base) : FnG P w K mg base d_x_read.at_ 7 ["text"] 1 k_read :=
  T.fun_ (d := d_x_read) 25 (by rfl) sc_read rfl (fun cdv A outer s H E hcd hr tk hx hp => have hN := sc_read.nd; (d_scons (dset 1 hN (w_make0 (T.mkr 51) (ok_Fair_init T) (rm hr) (glk (by kernel_rfl)) (by exact T.glo 52) hx)) (d_scons (d_sfor hp rfl (d_wl (d_bm strTy F.plainAttrs_str F.slot_str_split F.type_str_split mt_split p_split dv (d_cons d_str d_nil))) (dgn hN) (d_scons (d_sif (d_tcmp (op_neD (hu64 hr)) p_ne (d_bm strTy F.plainAttrs_str F.slot_str_strip F.type_str_strip mt_stripChars p_strip dv (d_cons d_str d_nil)) d_str) (d_scons (d_sexpr (w_call (ok_read_row T) (rm hr) (glk (by kernel_rfl)) (by exact T.glo 53) hx (d_cons dv (d_cons dv d_nil)))) d_snil) d_snil) d_snil)) d_noSs)))
    (fun fd F => F.bindsN fun _ _ _ _ _ _ us hl => match us, hl with | [_], _ => rfl)
theorem sc_Deed_init : FnScope ["self", "kind", "who", "words", "count"] ["self", "kind", "who", "words", "count"] d_x_Deed_init.scope := ⟨rfl, rfl, rfl, by decide +kernel, rfl, by decide +kernel, by decide +kernel⟩
theorem ok_Deed_init {P : Program} {w : World} {K : PySem.W.Frag} {mg : Str → Option Value} {base : Heap} (T : Gd K mg base) : FnG P w K mg base d_x_Deed_init.at_ 1 ["self", "kind", "who", "words", "count"] 5 k_Deed_init :=
  T.fun_ (d := d_x_Deed_init) 27 (by rfl) sc_Deed_init rfl (fun cdv A outer s H E hcd hr tk hx hp => have hN := sc_Deed_init.nd; (d_scons (d_setF (T.cls 54) (T.noat 55) dv dv) (d_scons (d_setF (T.cls 54) (T.noat 56) dv dv) (d_scons (d_setF (T.cls 54) (T.noat 57) dv (d_callTy call_tuple_of p_tuple (glk (by kernel_rfl)) (by exact T.free 0) (by kernel_rfl) (d_cons dv d_nil))) (d_scons (d_setF (T.cls 54) (T.noat 58) dv dv) d_snil)))))
    bind_Deed_init
theorem sc_read_deed : FnScope ["line", "words", "kind", "rest", "count"] ["line"] d_x_read_deed.scope := ⟨rfl, rfl, rfl, by decide +kernel, rfl, by decide +kernel, by decide +kernel⟩
theorem ok_read_deed {P : Program} {w : World} {K : PySem.W.Frag} {mg : Str → Option Value} {base : Heap} (T : Gd K mg base) : FnG P w K mg base d_x_read_deed.at_ 6 ["line"] 1 k_read_deed :=
  T.fun_ (d := d_x_read_deed) 28 (by rfl) sc_read_deed rfl (fun cdv A outer s H E hcd hr tk hx hp => have hN := sc_read_deed.nd; (d_scons (dset 1 hN (w_call (ok_words_of T) (rm hr) (glk (by kernel_rfl)) (by exact T.glo 41) hx (d_cons dv d_nil))) (d_scons (d_sif (PW.pt (d_or (d_tcmp op_lt p_cmp (d_callB call_lenA p_len (glk (by kernel_rfl)) (by exact T.free 2) (by kernel_rfl) (d_cons dv d_nil)) d_int) (d_or1 (d_tcmp op_ninAll p_in (d_ix dv d_int) (d_tup (d_cons d_str (d_cons d_str (d_cons d_str (d_cons d_str (d_cons d_str (d_cons d_str d_nil))))))))))) (d_scons (w_raise (c := 6) rfl tk (T.exc 42) (glk (by kernel_rfl)) (by exact T.glo 43)) d_snil) d_snil) (d_scons (dpar3 hN (d_cons (d_ix dv d_int) (d_cons (d_sl dv (d_part d_int) d_noPart) (d_cons d_non d_nil)))) (d_scons (d_sif (d_tcmp op_inAll p_in dv (d_tup (d_cons d_str (d_cons d_str d_nil)))) d_noSs d_snil) (d_scons (d_sif (PW.pt (d_and (d_tcmp op_inAll p_in dv (d_tup (d_cons d_str (d_cons d_str d_nil)))) (d_and1 (d_tcmp (op_neD (hu64 hr)) p_ne dv (d_lst d_nil))))) d_noSs d_snil) (d_scons (d_sret (w_make (T.mkr 60) (ok_Deed_init T) (rm hr) (glk (by kernel_rfl)) (by exact T.glo 61) hx (d_cons dv (d_cons (d_ix (w_call (ok_all_words T) (rm hr) (glk (by kernel_rfl)) (by exact T.glo 59) hx (d_cons (d_sl dv (d_part d_int) (d_part d_int)) d_nil)) d_int) (d_cons (w_call (ok_all_words T) (rm hr) (glk (by kernel_rfl)) (by exact T.glo 59) hx (d_cons dv d_nil)) (d_cons dv d_nil)))))) d_snil)))))))
    (fun fd F => F.bindsN fun _ _ _ _ _ _ us hl => match us, hl with | [_], _ => rfl)
theorem sc_check_pairs : FnScope ["links", "pairs", "cover", "others", "mine", "theirs", "other", "one", "row"] ["links", "pairs", "cover"] d_x_check_pairs.scope := ⟨rfl, rfl, rfl, by decide +kernel, rfl, by decide +kernel, by decide +kernel⟩
theorem ok_check_pairs {P : Program} {w : World} {K : PySem.W.Frag} {mg : Str → Option Value} {base : Heap} (T : Gd K mg base) : FnG P w K mg base d_x_check_pairs.at_ 4 ["links", "pairs", "cover"] 3 k_check_pairs :=
  T.fun_ (d := d_x_check_pairs) 29 (by rfl) sc_check_pairs rfl (fun cdv A outer s H E hcd hr tk hx hp => have hN := sc_check_pairs.nd; (d_scons (d_setLc (j := 3) rfl hN rfl rfl rfl (d_wt dv) (blkOk_by (own := [("other", 6)]) (by kernel_rfl)) (by decide) (fun s H C cl fp => (dgn hN)) (fun s H C cl fp => (d_ts1 (d_tcmp op_notN p_notN dv d_non))) (fun s H C cl fp => d_noE)) (d_scons (d_sif (PW.pt (d_or (d_tcmp (op_neD (hu64 hr)) p_ne (d_callB call_lenA p_len (glk (by kernel_rfl)) (by exact T.free 2) (by kernel_rfl) (d_cons (d_callTy (call_dictA rfl) p_dict (glk (by kernel_rfl)) (by exact T.free 1) (by kernel_rfl) (d_cons (d_lc rfl hN (d_wl dv) (blkOk_by (own := [("other", 6)]) (by kernel_rfl)) (by decide) (fun s H C cl fp => (dgn hN)) (fun s H C cl fp => d_ts0) (fun s H C cl fp => d_noE)) d_nil)) d_nil)) (d_callB call_lenA p_len (glk (by kernel_rfl)) (by exact T.free 2) (by kernel_rfl) (d_cons dv d_nil))) (d_or1 (d_tcmp (op_neD (hu64 hr)) p_ne (d_callB call_lenA p_len (glk (by kernel_rfl)) (by exact T.free 2) (by kernel_rfl) (d_cons dv d_nil)) (d_callB call_lenA p_len (glk (by kernel_rfl)) (by exact T.free 2) (by kernel_rfl) (d_cons (d_fld (T.cls 62) (T.noat 63) dv) d_nil)))))) d_noSs d_snil) (d_scons (d_sif (d_valB (d_gx1 (cn := .any) (glk (by kernel_rfl)) (by exact T.free 5) (T.gx (own := [("one", 7), ("other", 6)]) 7 0 hcd hN (rm hr)) (T.tm 7) (by decide) (d_wet (glk (by kernel_rfl)) (by exact T.free 8) (d_cons dv d_nil)) (by intro _; rfl) (fun s H cl C cv A1 fp pn hrg => (d_gtup rfl (d_gcons (dgn hN) (d_gcons (dgn hN) d_gnil)))) (fun s H cl C cv A1 fp pn hrg => d_ts0) (fun s H cl C cv A1 fp pn hrg => (d_andV (d_cmp op_notN p_notN dv d_non) d_noE)))) d_noSs d_snil) (d_scons (d_sasg dv (d_gtup rfl (d_gcons (dgn hN) (d_gcons (dgn hN) d_gnil)))) (d_scons (d_sif (d_valB (d_gx2 (vs1 := [6]) (cn := .any) (glk (by kernel_rfl)) (by exact T.free 5) (T.gx (own := [("one", 7), ("row", 8), ("other", 6)]) 7 0 hcd hN (rm hr)) (T.tm 7) (by decide) (by decide) (by decide) (d_wel (glk (by kernel_rfl)) (by exact T.free 8) (d_cons (d_fld (T.cls 62) (T.noat 63) dv) d_nil)) (by intro _; rfl) (fun s H cl C cv A1 fp pn hrg => (d_gtup rfl (d_gcons (dgn hN) (d_gcons (dgn hN) d_gnil)))) (fun s H cl C cv A1 fp pn hrg => d_ts0) (fun s H cl C cv A1 fp pn hrg => (d_wt dv)) (fun s H cl C cv A1 fp pn hrg => (dgn hN)) (fun s H cl C cv A1 fp pn hrg => d_ts0) (fun s H cl C cv A1 fp pn hrg => (d_andV (d_cmp op_ninAll p_in dv dv) (d_oneV (d_cmp op_ninAll p_in dv dv)))))) (d_scons (w_raise (c := 4) rfl tk (T.exc 36) (glk (by kernel_rfl)) (by exact T.glo 37)) d_snil) d_snil) d_noSs))))))
    (fun fd F => F.bindsN fun _ _ _ _ _ _ us hl => match us, hl with | [_, _, _], _ => rfl)
theorem sc_check_short : FnScope ["links", "lot", "linked", "one", "other"] ["links", "lot"] d_x_check_short.scope := ⟨rfl, rfl, rfl, by decide +kernel, rfl, by decide +kernel, by decide +kernel⟩
theorem ok_check_short {P : Program} {w : World} {K : PySem.W.Frag} {mg : Str → Option Value} {base : Heap} (T : Gd K mg base) : FnG P w K mg base d_x_check_short.at_ 4 ["links", "lot"] 2 k_check_short :=
  T.fun_ (d := d_x_check_short) 30 (by rfl) sc_check_short rfl (fun cdv A outer s H E hcd hr tk hx hp => have hN := sc_check_short.nd; (d_scons (d_sif (d_valB (d_gx1 (cn := .any) (glk (by kernel_rfl)) (by exact T.free 5) (T.gx (own := [("one", 3)]) 8 0 hcd hN (rm hr)) (T.tm 8) (by decide) (d_wt dv) (by intro _; rfl) (fun s H cl C cv A1 fp pn hrg => (dgn hN)) (fun s H cl C cv A1 fp pn hrg => d_ts0) (fun s H cl C cv A1 fp pn hrg => (d_notV (d_chain op_le p_cmp op_lt p_cmp d_int dv (d_callB call_lenA p_len (glk (by kernel_rfl)) (by exact T.free 2) (by kernel_rfl) (d_cons (d_fld (T.cls 62) (T.noat 63) dv) d_nil))))))) d_noSs d_snil) (d_scons (dset 2 hN (d_callTy (call_dictA rfl) p_dict (glk (by kernel_rfl)) (by exact T.free 1) (by kernel_rfl) (d_cons (d_lc2 (vs1 := [4]) rfl hN (d_wt dv) (blkOk_by (own := [("one", 3), ("other", 4)]) (by kernel_rfl)) (by decide) (by decide) (by decide) (fun s H C cl fp => (dgn hN)) (fun s H C cl fp => d_ts0) (fun s H C cl fp => (d_wt (d_ix (d_fld (T.cls 62) (T.noat 63) dv) dv))) (fun s H C cl fp => (dgn hN)) (fun s H C cl fp => d_ts0) (fun s H C cl fp => (d_tup (d_cons dv (d_cons d_int d_nil))))) d_nil))) (d_scons (d_sif (PW.pt (d_or (d_tcmp (op_neD (hu64 hr)) p_ne (d_callB call_lenA p_len (glk (by kernel_rfl)) (by exact T.free 2) (by kernel_rfl) (d_cons (d_callTy (call_dictA rfl) p_dict (glk (by kernel_rfl)) (by exact T.free 1) (by kernel_rfl) (d_cons (d_lc rfl hN (d_wt dv) (blkOk_by (own := [("one", 3)]) (by kernel_rfl)) (by decide) (fun s H C cl fp => (dgn hN)) (fun s H C cl fp => d_ts0) (fun s H C cl fp => (d_tup (d_cons dv (d_cons d_int d_nil))))) d_nil)) d_nil)) (d_callB call_lenA p_len (glk (by kernel_rfl)) (by exact T.free 2) (by kernel_rfl) (d_cons dv d_nil))) (d_or1 (d_tcmp op_ge p_cmp (d_callB call_lenA p_len (glk (by kernel_rfl)) (by exact T.free 2) (by kernel_rfl) (d_cons dv d_nil)) (d_callB call_lenA p_len (glk (by kernel_rfl)) (by exact T.free 2) (by kernel_rfl) (d_cons dv d_nil)))))) (d_scons (w_raise (c := 4) rfl tk (T.exc 36) (glk (by kernel_rfl)) (by exact T.glo 37)) d_snil) d_snil) d_noSs))))
    (fun fd F => F.bindsN fun _ _ _ _ _ _ us hl => match us, hl with | [_, _], _ => rfl)
theorem sc_check_square : FnScope ["rows", "found", "many", "sums", "row", "place", "one", "part"] ["rows"] d_x_check_square.scope := ⟨rfl, rfl, rfl, by decide +kernel, rfl, by decide +kernel, by decide +kernel⟩
theorem ok_check_square {P : Program} {w : World} {K : PySem.W.Frag} {mg : Str → Option Value} {base : Heap} (T : Gd K mg base) : FnG P w K mg base d_x_check_square.at_ 4 ["rows"] 1 k_check_square :=
  T.fun_ (d := d_x_check_square) 31 (by rfl) sc_check_square rfl (fun cdv A outer s H E hcd hr tk hx hp => have hN := sc_check_square.nd; (d_scons (dset 1 hN (d_lc rfl hN (d_wl dv) (blkOk_by (own := [("row", 4)]) (by kernel_rfl)) (by decide) (fun s H C cl fp => (dgn hN)) (fun s H C cl fp => d_ts0) (fun s H C cl fp => (d_callTy call_tuple_of p_tuple (glk (by kernel_rfl)) (by exact T.free 0) (by kernel_rfl) (d_cons dv d_nil))))) (d_scons (dset 2 hN (d_callB call_lenA p_len (glk (by kernel_rfl)) (by exact T.free 2) (by kernel_rfl) (d_cons dv d_nil))) (d_scons (d_sif (d_valB (d_gx1 (cn := .any) (glk (by kernel_rfl)) (by exact T.free 5) (T.gx (own := [("row", 4)]) 9 0 hcd hN (rm hr)) (T.tm 9) (by decide) (d_wl dv) (by intro _; rfl) (fun s H cl C cv A1 fp pn hrg => (dgn hN)) (fun s H cl C cv A1 fp pn hrg => d_ts0) (fun s H cl C cv A1 fp pn hrg => (d_orV (d_cmp (op_neD (hu64 hrg)) p_ne (d_callB call_lenA p_len (glk (by kernel_rfl)) (by exact T.free 2) (by kernel_rfl) (d_cons dv d_nil)) dv) d_noE)))) (d_scons (w_raise (c := 5) rfl tk (T.exc 9) (glk (by kernel_rfl)) (by exact T.glo 10)) d_snil) d_snil) d_noSs))))
    (fun fd F => F.bindsN fun _ _ _ _ _ _ us hl => match us, hl with | [_], _ => rfl)
theorem sc_parted : FnScope ["rows", "left", "found", "links", "pairs", "weight", "row", "place", "part"] ["rows"] d_x_parted.scope := ⟨rfl, rfl, rfl, by decide +kernel, rfl, by decide +kernel, by decide +kernel⟩
theorem ok_parted {P : Program} {w : World} {K : PySem.W.Frag} {mg : Str → Option Value} {base : Heap} (T : Gd K mg base) : FnG P w K mg base d_x_parted.at_ 5 ["rows"] 1 k_parted :=
  T.fun_ (d := d_x_parted) 32 (by rfl) sc_parted rfl (fun cdv A outer s H E hcd hr tk hx hp => have hN := sc_parted.nd; (d_scons (dset 1 hN (d_lc rfl hN (d_wl (w_call (ok_check_square T) (rm hr) (glk (by kernel_rfl)) (by exact T.glo 64) hx (d_cons dv d_nil))) (blkOk_by (own := [("row", 6)]) (by kernel_rfl)) (by decide) (fun s H C cl fp => (dgn hN)) (fun s H C cl fp => d_ts0) (fun s H C cl fp => d_noE))) d_noSs))
    (fun fd F => F.bindsN fun _ _ _ _ _ _ us hl => match us, hl with | [_], _ => rfl)
theorem sc_drawn : FnScope ["lots", "number", "left", "weight", "pairs"] ["lots", "number"] d_x_drawn.scope := ⟨rfl, rfl, rfl, by decide +kernel, rfl, by decide +kernel, by decide +kernel⟩
theorem ok_drawn {P : Program} {w : World} {K : PySem.W.Frag} {mg : Str → Option Value} {base : Heap} (T : Gd K mg base) : FnG P w K mg base d_x_drawn.at_ 1 ["lots", "number"] 2 k_drawn :=
  T.fun_ (d := d_x_drawn) 33 (by rfl) sc_drawn rfl (fun cdv A outer s H E hcd hr tk hx hp => have hN := sc_drawn.nd; (d_scons (dset 2 hN dv) (d_scons (d_sfor hp rfl (d_wt dv) (d_gtup rfl (d_gcons (dgn hN) (d_gcons (dgn hN) d_gnil))) d_noSs) (d_scons (w_raise (c := 5) rfl tk (T.exc 9) (glk (by kernel_rfl)) (by exact T.glo 10)) d_snil))))
    (fun fd F => F.bindsN fun _ _ _ _ _ _ us hl => match us, hl with | [_, _], _ => rfl)
theorem sc_Wants_linked : FnScope ["self", "askers", "rooms", "asker", "room"] ["self", "askers", "rooms"] d_x_Wants_linked.scope := ⟨rfl, rfl, rfl, by decide +kernel, rfl, by decide +kernel, by decide +kernel⟩
theorem ok_Wants_linked {P : Program} {w : World} {K : PySem.W.Frag} {mg : Str → Option Value} {base : Heap} (T : Gd K mg base) : FnG P w K mg base d_x_Wants_linked.at_ 4 ["self", "askers", "rooms"] 3 k_Wants_linked :=
  T.fun_ (d := d_x_Wants_linked) 34 (by rfl) sc_Wants_linked rfl (fun cdv A outer s H E hcd hr tk hx hp => have hN := sc_Wants_linked.nd; (d_scons (d_sret (d_gx2 (vs1 := [4]) (cn := .sum) (glk (by kernel_rfl)) (by exact T.free 69) (T.gx (own := [("asker", 3), ("room", 4)]) 11 0 hcd hN (rm hr)) (T.tm 11) (by decide) (by decide) (by decide) (d_wt dv) (by intro _; rfl) (fun s H cl C cv A1 fp pn hrg => (dgn hN)) (fun s H cl C cv A1 fp pn hrg => d_ts0) (fun s H cl C cv A1 fp pn hrg => (d_wt (d_ix (d_fld (T.cls 65) (T.noat 66) dv) dv))) (fun s H cl C cv A1 fp pn hrg => (dgn hN)) (fun s H cl C cv A1 fp pn hrg => (d_ts1 (d_tcmp op_inAll p_in dv dv))) (fun s H cl C cv A1 fp pn hrg => d_int))) d_snil))
    (fun fd F => F.bindsN fun _ _ _ _ _ _ us hl => match us, hl with | [_, _, _], _ => rfl)
theorem sc_check_cut : FnScope ["wants", "cut", "others", "outside", "low_in", "low_out", "high_in", "high_out", "askers", "rooms", "asker", "room", "side", "one"] ["wants", "cut"] d_x_check_cut.scope := ⟨rfl, rfl, rfl, by decide +kernel, rfl, by decide +kernel, by decide +kernel⟩
theorem ok_check_cut {P : Program} {w : World} {K : PySem.W.Frag} {mg : Str → Option Value} {base : Heap} (T : Gd K mg base) : FnG P w K mg base d_x_check_cut.at_ 5 ["wants", "cut"] 2 k_check_cut :=
  T.fun_ (d := d_x_check_cut) 35 (by rfl) sc_check_cut rfl (fun cdv A outer s H E hcd hr tk hx hp => have hN := sc_check_cut.nd; (d_scons (d_sasg dv (d_gtup rfl (d_gcons (dgn hN) (d_gcons (dgn hN) d_gnil)))) (d_scons (d_sif (PW.pt (d_or (d_valB (d_gx1 (cn := .any) (glk (by kernel_rfl)) (by exact T.free 5) (T.gx (own := [("one", 13)]) 10 0 hcd hN (rm hr)) (T.tm 10) (by decide) (d_wt dv) (by intro _; rfl) (fun s H cl C cv A1 fp pn hrg => (dgn hN)) (fun s H cl C cv A1 fp pn hrg => d_ts0) (fun s H cl C cv A1 fp pn hrg => (d_notV (d_chain op_le p_cmp op_lt p_cmp d_int dv (d_callB call_lenA p_len (glk (by kernel_rfl)) (by exact T.free 2) (by kernel_rfl) (d_cons (d_fld (T.cls 65) (T.noat 66) dv) d_nil))))))) (d_or1 (d_valB (d_gx1 (cn := .any) (glk (by kernel_rfl)) (by exact T.free 5) (T.gx (own := [("one", 13)]) 10 0 hcd hN (rm hr)) (T.tm 10) (by decide) (d_wt dv) (by intro _; rfl) (fun s H cl C cv A1 fp pn hrg => (dgn hN)) (fun s H cl C cv A1 fp pn hrg => d_ts0) (fun s H cl C cv A1 fp pn hrg => d_noE)))))) d_noSs d_snil) (d_scons (d_sif (d_valB (d_gx1 (cn := .any) (glk (by kernel_rfl)) (by exact T.free 5) (T.gx (own := [("side", 12)]) 10 0 hcd hN (rm hr)) (T.tm 10) (by decide) (d_wt dv) (by intro _; rfl) (fun s H cl C cv A1 fp pn hrg => (dgn hN)) (fun s H cl C cv A1 fp pn hrg => d_ts0) (fun s H cl C cv A1 fp pn hrg => (d_cmp (op_neD (hu64 hrg)) p_ne (d_callB call_lenA p_len (glk (by kernel_rfl)) (by exact T.free 2) (by kernel_rfl) (d_cons (d_callTy (call_dictA rfl) p_dict (glk (by kernel_rfl)) (by exact T.free 1) (by kernel_rfl) (d_cons (d_lc rfl hN (d_wt dv) (blkOk_by (own := [("one", 13)]) (by kernel_rfl)) (by decide) (fun s H C cl fp => (dgn hN)) (fun s H C cl fp => d_ts0) (fun s H C cl fp => (d_tup (d_cons dv (d_cons d_int d_nil))))) d_nil)) d_nil)) (d_callB call_lenA p_len (glk (by kernel_rfl)) (by exact T.free 2) (by kernel_rfl) (d_cons dv d_nil)))))) d_noSs d_snil) (d_scons (d_setLc (j := 2) rfl hN rfl rfl rfl (d_wr1 (glk (by kernel_rfl)) (by exact T.free 31) (d_cons (d_callB call_lenA p_len (glk (by kernel_rfl)) (by exact T.free 2) (by kernel_rfl) (d_cons (d_fld (T.cls 65) (T.noat 66) dv) d_nil)) d_nil)) (blkOk_by (own := [("asker", 10)]) (by kernel_rfl)) (by decide) (fun s H C cl fp => (dgn hN)) (fun s H C cl fp => (d_ts1 (d_tcmp op_ninAll p_in dv dv))) (fun s H C cl fp => d_noE)) (d_scons (d_setLc (j := 3) rfl hN rfl rfl rfl (d_wr1 (glk (by kernel_rfl)) (by exact T.free 31) (d_cons (d_callB call_lenA p_len (glk (by kernel_rfl)) (by exact T.free 2) (by kernel_rfl) (d_cons (d_fld (T.cls 65) (T.noat 67) dv) d_nil)) d_nil)) (blkOk_by (own := [("room", 11)]) (by kernel_rfl)) (by decide) (fun s H C cl fp => (dgn hN)) (fun s H C cl fp => (d_ts1 (d_tcmp op_ninAll p_in dv dv))) (fun s H C cl fp => dv)) (d_scons (dset 4 hN (d_gx1 (cn := .sum) (glk (by kernel_rfl)) (by exact T.free 69) (T.gx (own := [("asker", 10)]) 10 0 hcd hN (rm hr)) (T.tm 10) (by decide) (d_wt dv) (by intro _; rfl) (fun s H cl C cv A1 fp pn hrg => (dgn hN)) (fun s H cl C cv A1 fp pn hrg => d_ts0) (fun s H cl C cv A1 fp pn hrg => (d_ix (d_ix (d_fld (T.cls 65) (T.noat 68) dv) dv) d_int)))) (d_scons (dset 5 hN (d_gx1 (cn := .sum) (glk (by kernel_rfl)) (by exact T.free 69) (T.gx (own := [("room", 11)]) 10 0 hcd hN (rm hr)) (T.tm 10) (by decide) (d_wl dv) (by intro _; rfl) (fun s H cl C cv A1 fp pn hrg => (dgn hN)) (fun s H cl C cv A1 fp pn hrg => d_ts0) (fun s H cl C cv A1 fp pn hrg => (d_ix (d_ix (d_fld (T.cls 65) (T.noat 67) dv) dv) d_int)))) (d_scons (dset 6 hN (d_op op_addAll p_add (d_gx1 (cn := .sum) (glk (by kernel_rfl)) (by exact T.free 69) (T.gx (own := [("room", 11)]) 10 0 hcd hN (rm hr)) (T.tm 10) (by decide) (d_wt dv) (by intro _; rfl) (fun s H cl C cv A1 fp pn hrg => (dgn hN)) (fun s H cl C cv A1 fp pn hrg => d_ts0) (fun s H cl C cv A1 fp pn hrg => d_noE)) (w_meth (c := 19) dv (T.cls 65) (T.meth 70) (ok_Wants_linked T) (rm hr) hx (d_cons dv (d_cons dv d_nil))))) (d_scons (dset 7 hN (d_op op_addAll p_add (d_gx1 (cn := .sum) (glk (by kernel_rfl)) (by exact T.free 69) (T.gx (own := [("asker", 10)]) 10 0 hcd hN (rm hr)) (T.tm 10) (by decide) (d_wl dv) (by intro _; rfl) (fun s H cl C cv A1 fp pn hrg => (dgn hN)) (fun s H cl C cv A1 fp pn hrg => d_ts0) (fun s H cl C cv A1 fp pn hrg => d_noE)) (w_meth (c := 19) dv (T.cls 65) (T.meth 70) (ok_Wants_linked T) (rm hr) hx (d_cons dv (d_cons dv d_nil))))) (d_scons (d_sif (PW.pt (d_and (d_tcmp op_le p_cmp dv dv) (d_and1 (d_tcmp op_le p_cmp dv dv)))) (d_scons (w_raise (c := 4) rfl tk (T.exc 36) (glk (by kernel_rfl)) (by exact T.glo 37)) d_snil) d_snil) d_noSs)))))))))))
    (fun fd F => F.bindsN fun _ _ _ _ _ _ us hl => match us, hl with | [_, _], _ => rfl)
theorem sc_check_rows : FnScope ["rows", "found", "row", "worth"] ["rows"] d_x_check_rows.scope := ⟨rfl, rfl, rfl, by decide +kernel, rfl, by decide +kernel, by decide +kernel⟩
theorem ok_check_rows {P : Program} {w : World} {K : PySem.W.Frag} {mg : Str → Option Value} {base : Heap} (T : Gd K mg base) : FnG P w K mg base d_x_check_rows.at_ 7 ["rows"] 1 k_check_rows :=
  T.fun_ (d := d_x_check_rows) 36 (by rfl) sc_check_rows rfl (fun cdv A outer s H E hcd hr tk hx hp => have hN := sc_check_rows.nd; (d_scons (dset 1 hN (d_lc rfl hN (d_wl dv) (blkOk_by (own := [("row", 2)]) (by kernel_rfl)) (by decide) (fun s H C cl fp => (dgn hN)) (fun s H C cl fp => d_ts0) (fun s H C cl fp => (d_callTy call_tuple_of p_tuple (glk (by kernel_rfl)) (by exact T.free 0) (by kernel_rfl) (d_cons dv d_nil))))) (d_scons (d_sif (d_valB (d_gxN (cn := .any) (glk (by kernel_rfl)) (by exact T.free 5) (T.gx (own := [("row", 2)]) 12 3 hcd hN (rm hr)) nestGr (by decide) (d_wl dv) (by intro _; rfl) (fun c' s H cl C A1 fp pn hrg => (dgn hN)) (fun c' P' s H cl C A1 fp pn hrg => d_ts0) (fun c' P' s H cl C A1 fp pn hrg => (d_orV (d_cmp (op_neD (hu64 hrg)) p_ne (d_callB call_lenA p_len (glk (by kernel_rfl)) (by exact T.free 2) (by kernel_rfl) (d_cons dv d_nil)) (d_callB call_lenA p_len (glk (by kernel_rfl)) (by exact T.free 2) (by kernel_rfl) (d_cons (d_ix dv d_int) d_nil))) (d_oneV (d_gxD (cn := .any) (glk (by kernel_rfl)) (by exact T.free 5) (T.gxD (own := [("worth", 3)]) 12 0 rfl hN (rm hrg)) (nestGr.tab c' P') nestGr.code (by decide) (d_wt dv) (by intro _; rfl) (fun s H cl C cv A1 fp pn hrg => (dgn hN)) (fun s H cl C cv A1 fp pn hrg => d_ts0) (fun s H cl C cv A1 fp pn hrg => (d_cmp op_lt p_cmp dv d_int)))))))) (d_scons (w_raise (c := 5) rfl tk (T.exc 9) (glk (by kernel_rfl)) (by exact T.glo 10)) d_snil) d_snil) d_noSs)))
    (fun fd F => F.bindsN fun _ _ _ _ _ _ us hl => match us, hl with | [_], _ => rfl)
end K33
namespace K33
open PySem PySem.Spec PyProof.Rows L2
theorem sc_lists_of_lot : FnScope ["market", "lot", "found", "asker", "row", "order"] ["market", "lot"] d_x_lists_of_lot.scope := ⟨rfl, rfl, rfl, by decide +kernel, rfl, by decide +kernel, by decide +kernel⟩
theorem ok_lists_of_lot {P : Program} {w : World} {K : PySem.W.Frag} {mg : Str → Option Value} {base : Heap} (T : Gd K mg base) : FnG P w K mg base d_x_lists_of_lot.at_ 1 ["market", "lot"] 2 k_lists_of_lot :=
  T.fun_ (d := d_x_lists_of_lot) 37 (by rfl) sc_lists_of_lot rfl (fun cdv A outer s H E hcd hr tk hx hp => have hN := sc_lists_of_lot.nd; (d_scons (d_sif (PW.pt (d_or (d_tcmp op_gt p_cmp (d_callB call_lenA p_len (glk (by kernel_rfl)) (by exact T.free 2) (by kernel_rfl) (d_cons dv d_nil)) d_int) d_noW)) (d_scons (w_raise (c := 5) rfl tk (T.exc 9) (glk (by kernel_rfl)) (by exact T.glo 10)) d_snil) d_snil) d_noSs))
    (fun fd F => F.bindsN fun _ _ _ _ _ _ us hl => match us, hl with | [_, _], _ => rfl)
theorem sc_Votes_init : FnScope ["self", "lists", "many", "order"] ["self", "lists", "many"] d_x_Votes_init.scope := ⟨rfl, rfl, rfl, by decide +kernel, rfl, by decide +kernel, by decide +kernel⟩
theorem ok_Votes_init {P : Program} {w : World} {K : PySem.W.Frag} {mg : Str → Option Value} {base : Heap} (T : Gd K mg base) : FnG P w K mg base d_x_Votes_init.at_ 5 ["self", "lists", "many"] 3 k_Votes_init :=
  T.fun_ (d := d_x_Votes_init) 38 (by rfl) sc_Votes_init rfl (fun cdv A outer s H E hcd hr tk hx hp => have hN := sc_Votes_init.nd; (d_scons (d_setF (T.cls 71) (T.noat 72) dv (d_lc rfl hN (d_wl dv) (blkOk_by (own := [("order", 3)]) (by kernel_rfl)) (by decide) (fun s H C cl fp => (dgn hN)) (fun s H C cl fp => d_ts0) (fun s H C cl fp => (w_call (ok_check_list T) (rm hr) (glk (by kernel_rfl)) (by exact T.glo 7) passNo (d_cons dv (d_cons dv d_nil)))))) (d_scons (d_setF (T.cls 71) (T.noat 73) dv dv) (d_scons (d_setF (T.cls 71) (T.noat 74) dv (d_callTy call_tuple_of p_tuple (glk (by kernel_rfl)) (by exact T.free 0) (by kernel_rfl) (d_cons (d_callB (call_sortA rfl) p_sorted (glk (by kernel_rfl)) (by exact T.free 6) (by kernel_rfl) (d_cons (d_callTy (call_dictA rfl) p_dict (glk (by kernel_rfl)) (by exact T.free 1) (by kernel_rfl) (d_cons (d_lc rfl hN (d_wl (d_fld (T.cls 71) (T.noat 72) dv)) (blkOk_by (own := [("order", 3)]) (by kernel_rfl)) (by decide) (fun s H C cl fp => (dgn hN)) (fun s H C cl fp => (d_ts1 (d_tcmp (op_neD (hu64 hr)) p_ne dv (d_tup d_nil)))) (fun s H C cl fp => (d_tup (d_cons (d_ix dv d_int) (d_cons d_int d_nil))))) d_nil)) d_nil)) d_nil))) d_snil))))
    (fun fd F => F.bindsN fun _ _ _ _ _ _ us hl => match us, hl with | [_, _, _], _ => rfl)
theorem sc_Votes_second : FnScope ["self", "asker", "good", "thing"] ["self", "asker"] d_x_Votes_second.scope := ⟨rfl, rfl, rfl, by decide +kernel, rfl, by decide +kernel, by decide +kernel⟩
theorem ok_Votes_second {P : Program} {w : World} {K : PySem.W.Frag} {mg : Str → Option Value} {base : Heap} (T : Gd K mg base) : FnG P w K mg base d_x_Votes_second.at_ 1 ["self", "asker"] 2 k_Votes_second :=
  T.fun_ (d := d_x_Votes_second) 39 (by rfl) sc_Votes_second rfl (fun cdv A outer s H E hcd hr tk hx hp => have hN := sc_Votes_second.nd; (d_scons (d_setLc (j := 2) rfl hN rfl rfl rfl (d_wt (d_ix (d_fld (T.cls 71) (T.noat 72) dv) dv)) (blkOk_by (own := [("thing", 3)]) (by kernel_rfl)) (by decide) (fun s H C cl fp => (dgn hN)) (fun s H C cl fp => (d_ts1 (d_tcmp op_ninAll p_in dv (d_fld (T.cls 71) (T.noat 74) dv)))) (fun s H C cl fp => d_noE)) (d_scons (d_sret (d_if (d_tcmp (op_neD (hu64 hr)) p_ne dv (d_lst d_nil)) d_noE d_non)) d_snil)))
    (fun fd F => F.bindsN fun _ _ _ _ _ _ us hl => match us, hl with | [_, _], _ => rfl)
theorem sc_Votes_first : FnScope ["self", "asker"] ["self", "asker"] d_x_Votes_first.scope := ⟨rfl, rfl, rfl, by decide +kernel, rfl, by decide +kernel, by decide +kernel⟩
theorem ok_Votes_first {P : Program} {w : World} {K : PySem.W.Frag} {mg : Str → Option Value} {base : Heap} (T : Gd K mg base) : FnG P w K mg base d_x_Votes_first.at_ 1 ["self", "asker"] 2 k_Votes_first :=
  T.fun_ (d := d_x_Votes_first) 40 (by rfl) sc_Votes_first rfl (fun cdv A outer s H E hcd hr tk hx hp => have hN := sc_Votes_first.nd; (d_scons (d_sret (d_if (d_tcmp (op_neD (hu64 hr)) p_ne (d_ix (d_fld (T.cls 71) (T.noat 72) dv) dv) (d_tup d_nil)) (d_ix (d_ix (d_fld (T.cls 71) (T.noat 72) dv) dv) d_int) d_noE)) d_snil))
    (fun fd F => F.bindsN fun _ _ _ _ _ _ us hl => match us, hl with | [_, _], _ => rfl)
theorem sc_Votes_choices : FnScope ["self", "found", "asker", "second", "row"] ["self"] d_x_Votes_choices.scope := ⟨rfl, rfl, rfl, by decide +kernel, rfl, by decide +kernel, by decide +kernel⟩
theorem ok_Votes_choices {P : Program} {w : World} {K : PySem.W.Frag} {mg : Str → Option Value} {base : Heap} (T : Gd K mg base) : FnG P w K mg base d_x_Votes_choices.at_ 2 ["self"] 1 k_Votes_choices :=
  T.fun_ (d := d_x_Votes_choices) 41 (by rfl) sc_Votes_choices rfl (fun cdv A outer s H E hcd hr tk hx hp => have hN := sc_Votes_choices.nd; (d_scons (dset 1 hN (d_lst d_nil)) (d_scons (d_sfor hp rfl (d_wr1 (glk (by kernel_rfl)) (by exact T.free 31) (d_cons (d_callB call_lenA p_len (glk (by kernel_rfl)) (by exact T.free 2) (by kernel_rfl) (d_cons (d_fld (T.cls 71) (T.noat 72) dv) d_nil)) d_nil)) (dgn hN) (d_scons (dset 3 hN (w_meth (c := 21) dv (T.cls 71) (T.meth 77) (ok_Votes_second T) (rm hr) hx (d_cons dv d_nil))) (d_scons (dset 4 hN (d_if (d_tcmp op_isN p_isN (w_meth (c := 21) dv (T.cls 71) (T.meth 78) (ok_Votes_first T) (rm hr) hx (d_cons dv d_nil)) d_non) d_noE (d_lst (d_cons (w_meth (c := 21) dv (T.cls 71) (T.meth 78) (ok_Votes_first T) (rm hr) hx (d_cons dv d_nil)) d_nil)))) (d_scons (d_sexpr (d_bm lstTy F.plainAttrs_list F.slot_list_append F.type_list_append mtAppend p_append dv (d_cons (d_op op_addAll p_add dv (d_lst (d_cons (d_if (d_tcmp op_isN p_isN dv d_non) (d_op op_addAll p_add (d_fld (T.cls 71) (T.noat 73) dv) dv) d_noE) d_nil))) d_nil))) d_snil)))) (d_scons (d_sret dv) d_snil))))
    (fun fd F => F.bindsN fun _ _ _ _ _ _ us hl => match us, hl with | [_], _ => rfl)
theorem sc_check_lot : FnScope ["lists", "many", "lot", "votes", "choices", "one", "thing"] ["lists", "many", "lot"] d_x_check_lot.scope := ⟨rfl, rfl, rfl, by decide +kernel, rfl, by decide +kernel, by decide +kernel⟩
theorem ok_check_lot {P : Program} {w : World} {K : PySem.W.Frag} {mg : Str → Option Value} {base : Heap} (T : Gd K mg base) : FnG P w K mg base d_x_check_lot.at_ 7 ["lists", "many", "lot"] 3 k_check_lot :=
  T.fun_ (d := d_x_check_lot) 42 (by rfl) sc_check_lot rfl (fun cdv A outer s H E hcd hr tk hx hp => have hN := sc_check_lot.nd; (d_scons (dset 3 hN (w_make (T.mkr 75) (ok_Votes_init T) (rm hr) (glk (by kernel_rfl)) (by exact T.glo 76) hx (d_cons dv (d_cons dv d_nil)))) (d_scons (d_sif (PW.pt (d_or (d_valB (d_gx1 (cn := .any) (glk (by kernel_rfl)) (by exact T.free 5) (T.gx (own := [("one", 5)]) 13 0 hcd hN (rm hr)) (T.tm 13) (by decide) (d_wt dv) (by intro _; rfl) (fun s H cl C cv A1 fp pn hrg => (dgn hN)) (fun s H cl C cv A1 fp pn hrg => d_ts0) (fun s H cl C cv A1 fp pn hrg => (d_notV (d_chain op_le p_cmp op_lt p_cmp d_int dv (d_callB call_lenA p_len (glk (by kernel_rfl)) (by exact T.free 2) (by kernel_rfl) (d_cons dv d_nil))))))) (d_or1 (d_tcmp (op_neD (hu64 hr)) p_ne (d_callB call_lenA p_len (glk (by kernel_rfl)) (by exact T.free 2) (by kernel_rfl) (d_cons (d_callTy (call_dictA rfl) p_dict (glk (by kernel_rfl)) (by exact T.free 1) (by kernel_rfl) (d_cons (d_lc rfl hN (d_wt dv) (blkOk_by (own := [("one", 5)]) (by kernel_rfl)) (by decide) (fun s H C cl fp => (dgn hN)) (fun s H C cl fp => d_ts0) (fun s H C cl fp => (d_tup (d_cons dv (d_cons d_int d_nil))))) d_nil)) d_nil)) (d_callB call_lenA p_len (glk (by kernel_rfl)) (by exact T.free 2) (by kernel_rfl) (d_cons dv d_nil)))))) d_noSs d_snil) (d_scons (dset 4 hN (w_meth0 (c := 21) dv (T.cls 71) (T.meth 79) (ok_Votes_choices T) (rm hr) hx)) (d_scons (d_sif (d_tcmp op_ge p_cmp (d_callB call_lenA p_len (glk (by kernel_rfl)) (by exact T.free 2) (by kernel_rfl) (d_cons (d_callTy (call_dictA rfl) p_dict (glk (by kernel_rfl)) (by exact T.free 1) (by kernel_rfl) (d_cons (d_lc2 (vs1 := [6]) rfl hN (d_wt dv) (blkOk_by (own := [("one", 5), ("thing", 6)]) (by kernel_rfl)) (by decide) (by decide) (by decide) (fun s H C cl fp => (dgn hN)) (fun s H C cl fp => d_ts0) (fun s H C cl fp => (d_wl (d_ix dv dv))) (fun s H C cl fp => (dgn hN)) (fun s H C cl fp => d_ts0) (fun s H C cl fp => (d_tup (d_cons dv (d_cons d_int d_nil))))) d_nil)) d_nil)) (d_callB call_lenA p_len (glk (by kernel_rfl)) (by exact T.free 2) (by kernel_rfl) (d_cons dv d_nil))) (d_scons (w_raise (c := 4) rfl tk (T.exc 36) (glk (by kernel_rfl)) (by exact T.glo 37)) d_snil) d_snil) d_noSs)))))
    (fun fd F => F.bindsN fun _ _ _ _ _ _ us hl => match us, hl with | [_, _, _], _ => rfl)
theorem sc_Wish_init : FnScope ["self", "order", "place", "one"] ["self", "order"] d_x_Wish_init.scope := ⟨rfl, rfl, rfl, by decide +kernel, rfl, by decide +kernel, by decide +kernel⟩
theorem ok_Wish_init {P : Program} {w : World} {K : PySem.W.Frag} {mg : Str → Option Value} {base : Heap} (T : Gd K mg base) : FnG P w K mg base d_x_Wish_init.at_ 1 ["self", "order"] 2 k_Wish_init :=
  T.fun_ (d := d_x_Wish_init) 43 (by rfl) sc_Wish_init rfl (fun cdv A outer s H E hcd hr tk hx hp => have hN := sc_Wish_init.nd; (d_scons (d_setF (T.cls 18) (T.noat 22) dv (d_callTy call_tuple_of p_tuple (glk (by kernel_rfl)) (by exact T.free 0) (by kernel_rfl) (d_cons dv d_nil))) (d_scons (d_setF (T.cls 18) (T.noat 19) dv (d_callTy (call_dictA rfl) p_dict (glk (by kernel_rfl)) (by exact T.free 1) (by kernel_rfl) (d_cons (d_lc rfl hN (d_wet (glk (by kernel_rfl)) (by exact T.free 8) (d_cons (d_fld (T.cls 18) (T.noat 22) dv) d_nil)) (blkOk_by (own := [("place", 2), ("one", 3)]) (by kernel_rfl)) (by decide) (fun s H C cl fp => (d_gtup rfl (d_gcons (dgn hN) (d_gcons (dgn hN) d_gnil)))) (fun s H C cl fp => d_ts0) (fun s H C cl fp => (d_tup (d_cons dv (d_cons dv d_nil))))) d_nil))) d_snil)))
    (fun fd F => F.bindsN fun _ _ _ _ _ _ us hl => match us, hl with | [_, _], _ => rfl)
theorem sc_Table_init : FnScope ["self", "lists", "order", "other", "one", "wish"] ["self", "lists"] d_x_Table_init.scope := ⟨rfl, rfl, rfl, by decide +kernel, rfl, by decide +kernel, by decide +kernel⟩
theorem ok_Table_init {P : Program} {w : World} {K : PySem.W.Frag} {mg : Str → Option Value} {base : Heap} (T : Gd K mg base) : FnG P w K mg base d_x_Table_init.at_ 5 ["self", "lists"] 2 k_Table_init :=
  T.fun_ (d := d_x_Table_init) 44 (by rfl) sc_Table_init rfl (fun cdv A outer s H E hcd hr tk hx hp => have hN := sc_Table_init.nd; (d_scons (d_setF (T.cls 82) (T.noat 83) dv (d_lc rfl hN (d_wl dv) (blkOk_by (own := [("order", 2)]) (by kernel_rfl)) (by decide) (fun s H C cl fp => (dgn hN)) (fun s H C cl fp => d_ts0) (fun s H C cl fp => (w_make (T.mkr 80) (ok_Wish_init T) (rm hr) (glk (by kernel_rfl)) (by exact T.glo 81) passNo (d_cons (w_call (ok_check_list T) (rm hr) (glk (by kernel_rfl)) (by exact T.glo 7) passNo (d_cons dv (d_cons (d_callB call_lenA p_len (glk (by kernel_rfl)) (by exact T.free 2) (by kernel_rfl) (d_cons dv d_nil)) d_nil))) d_nil))))) (d_scons (d_sif (d_valB (d_gx1 (cn := .any) (glk (by kernel_rfl)) (by exact T.free 5) (T.gx (own := [("one", 4), ("wish", 5)]) 14 1 hcd hN (rm hr)) (T.tm 14) (by decide) (d_wel (glk (by kernel_rfl)) (by exact T.free 8) (d_cons (d_fld (T.cls 82) (T.noat 83) dv) d_nil)) (by intro _; rfl) (fun s H cl C cv A1 fp pn hrg => (d_gtup rfl (d_gcons (dgn hN) (d_gcons (dgn hN) d_gnil)))) (fun s H cl C cv A1 fp pn hrg => d_ts0) (fun s H cl C cv A1 fp pn hrg => (w_meth (c := 10) dv (T.cls 18) (T.meth 20) (ok_Wish_has T) (rm hrg) passNo (d_cons dv d_nil))))) (d_scons (w_raise (c := 1) rfl tk (T.exc 3) (glk (by kernel_rfl)) (by exact T.glo 4)) d_snil) d_snil) (d_scons (d_setF (T.cls 82) (T.noat 84) dv (d_lc rfl hN (d_wel (glk (by kernel_rfl)) (by exact T.free 8) (d_cons (d_fld (T.cls 82) (T.noat 83) dv) d_nil)) (blkOk_by (own := [("one", 4), ("wish", 5)]) (by kernel_rfl)) (by decide) (fun s H C cl fp => (d_gtup rfl (d_gcons (dgn hN) (d_gcons (dgn hN) d_gnil)))) (fun s H C cl fp => d_ts0) (fun s H C cl fp => (d_lc rfl hN (d_wt (d_fld (T.cls 18) (T.noat 22) dv)) (blkOk_by (own := [("other", 3)]) (by kernel_rfl)) (by decide) (fun s H C cl fp => (dgn hN)) (fun s H C cl fp => (d_ts1 (d_valB (w_meth (c := 10) (d_ix (d_fld (T.cls 82) (T.noat 83) dv) dv) (T.cls 18) (T.meth 20) (ok_Wish_has T) (rm hr) passNo (d_cons dv d_nil))))) (fun s H C cl fp => dv))))) (d_scons (d_setF (T.cls 82) (T.noat 85) dv (d_lst d_nil)) d_snil)))))
    (fun fd F => F.bindsN fun _ _ _ _ _ _ us hl => match us, hl with | [_, _], _ => rfl)
theorem sc_search : FnScope ["lists", "table", "had", "ring", "one"] ["lists"] d_x_search.scope := ⟨rfl, rfl, rfl, by decide +kernel, rfl, by decide +kernel, by decide +kernel⟩
theorem ok_search {P : Program} {w : World} {K : PySem.W.Frag} {mg : Str → Option Value} {base : Heap} (T : Gd K mg base) : FnG P w K mg base d_x_search.at_ 7 ["lists"] 1 k_search :=
  T.fun_ (d := d_x_search) 45 (by rfl) sc_search rfl (fun cdv A outer s H E hcd hr tk hx hp => have hN := sc_search.nd; (d_scons (dset 1 hN (w_make (T.mkr 86) (ok_Table_init T) (rm hr) (glk (by kernel_rfl)) (by exact T.glo 87) hx (d_cons dv d_nil))) d_noSs))
    (fun fd F => F.bindsN fun _ _ _ _ _ _ us hl => match us, hl with | [_], _ => rfl)
theorem sc_pair_off : FnScope ["lists", "table", "had", "order"] ["lists"] d_x_pair_off.scope := ⟨rfl, rfl, rfl, by decide +kernel, rfl, by decide +kernel, by decide +kernel⟩
theorem ok_pair_off {P : Program} {w : World} {K : PySem.W.Frag} {mg : Str → Option Value} {base : Heap} (T : Gd K mg base) : FnG P w K mg base d_x_pair_off.at_ 8 ["lists"] 1 k_pair_off :=
  T.fun_ (d := d_x_pair_off) 46 (by rfl) sc_pair_off rfl (fun cdv A outer s H E hcd hr tk hx hp => have hN := sc_pair_off.nd; (d_scons (d_sasg (w_call (ok_search T) (rm hr) (glk (by kernel_rfl)) (by exact T.glo 88) hx (d_cons dv d_nil)) (d_gtup rfl (d_gcons (dgn hN) (d_gcons (dgn hN) d_gnil)))) d_noSs))
    (fun fd F => F.bindsN fun _ _ _ _ _ _ us hl => match us, hl with | [_], _ => rfl)
theorem sc_Table_cut_behind : FnScope ["self", "one", "other"] ["self", "one", "other"] d_x_Table_cut_behind.scope := ⟨rfl, rfl, rfl, by decide +kernel, rfl, by decide +kernel, by decide +kernel⟩
theorem ok_Table_cut_behind {P : Program} {w : World} {K : PySem.W.Frag} {mg : Str → Option Value} {base : Heap} (T : Gd K mg base) : FnG P w K mg base d_x_Table_cut_behind.at_ 1 ["self", "one", "other"] 3 k_Table_cut_behind :=
  T.fun_ (d := d_x_Table_cut_behind) 47 (by rfl) sc_Table_cut_behind rfl (fun cdv A outer s H E hcd hr tk hx hp => have hN := sc_Table_cut_behind.nd; (d_scons (d_swhile hp (d_tcmp (op_neD (hu64 hr)) p_ne (d_ix (d_ix (d_fld (T.cls 82) (T.noat 84) dv) dv) (d_neg d_int)) dv) d_noSs) d_snil))
    (fun fd F => F.bindsN fun _ _ _ _ _ _ us hl => match us, hl with | [_, _, _], _ => rfl)
theorem sc_check_ask : FnScope ["table", "step", "one", "first"] ["table", "step"] d_x_check_ask.scope := ⟨rfl, rfl, rfl, by decide +kernel, rfl, by decide +kernel, by decide +kernel⟩
theorem ok_check_ask {P : Program} {w : World} {K : PySem.W.Frag} {mg : Str → Option Value} {base : Heap} (T : Gd K mg base) : FnG P w K mg base d_x_check_ask.at_ 2 ["table", "step"] 2 k_check_ask :=
  T.fun_ (d := d_x_check_ask) 48 (by rfl) sc_check_ask rfl (fun cdv A outer s H E hcd hr tk hx hp => have hN := sc_check_ask.nd; (d_scons (dpar2 hN (d_cons (d_ix dv d_int) (d_cons (d_ix dv d_int) d_nil))) (d_scons (d_sif (PW.pt (d_or (d_not (d_tchain op_le p_cmp op_lt p_cmp d_int dv (d_callB call_lenA p_len (glk (by kernel_rfl)) (by exact T.free 2) (by kernel_rfl) (d_cons (d_fld (T.cls 82) (T.noat 84) dv) d_nil)))) (d_or (d_tcmp (op_eqD (hu64 hr)) p_eq (d_ix (d_fld (T.cls 82) (T.noat 84) dv) dv) (d_lst d_nil)) (d_or1 (d_tcmp (op_neD (hu64 hr)) p_ne (d_ix (d_ix (d_fld (T.cls 82) (T.noat 84) dv) dv) d_int) dv))))) d_noSs d_snil) (d_scons (d_sexpr (w_meth (c := 22) dv (T.cls 82) (T.meth 89) (ok_Table_cut_behind T) (rm hr) hx (d_cons dv (d_cons dv d_nil)))) d_snil))))
    (fun fd F => F.bindsN fun _ _ _ _ _ _ us hl => match us, hl with | [_, _], _ => rfl)
end K33
namespace K33
open PySem PySem.Spec PyProof.Rows L2
theorem sc_check_steps : FnScope ["lists", "steps", "table", "had", "step", "one"] ["lists", "steps"] d_x_check_steps.scope := ⟨rfl, rfl, rfl, by decide +kernel, rfl, by decide +kernel, by decide +kernel⟩
theorem ok_check_steps {P : Program} {w : World} {K : PySem.W.Frag} {mg : Str → Option Value} {base : Heap} (T : Gd K mg base) : FnG P w K mg base d_x_check_steps.at_ 7 ["lists", "steps"] 2 k_check_steps :=
  T.fun_ (d := d_x_check_steps) 49 (by rfl) sc_check_steps rfl (fun cdv A outer s H E hcd hr tk hx hp => have hN := sc_check_steps.nd; (d_scons (dset 2 hN (w_make (T.mkr 86) (ok_Table_init T) (rm hr) (glk (by kernel_rfl)) (by exact T.glo 87) hx (d_cons dv d_nil))) (d_scons (dset 3 hN d_non) (d_scons (d_sfor hp rfl (d_wl dv) (dgn hN) (d_scons (d_sif (d_tcmp (op_eqD (hu64 hr)) p_eq (d_ix dv d_int) d_str) (d_scons (d_sexpr (w_call (ok_check_ask T) (rm hr) (glk (by kernel_rfl)) (by exact T.glo 90) hx (d_cons dv (d_cons dv d_nil)))) d_snil) d_noSs) d_snil)) (d_scons (d_sif (PW.pt (d_or (d_tcmp op_isN p_isN dv d_non) d_noW)) (d_scons (w_raise (c := 4) rfl tk (T.exc 36) (glk (by kernel_rfl)) (by exact T.glo 37)) d_snil) d_snil) d_noSs)))))
    (fun fd F => F.bindsN fun _ _ _ _ _ _ us hl => match us, hl with | [_, _], _ => rfl)
theorem sc_Market_pairs : FnScope ["self", "found", "asker", "wish", "room"] ["self"] d_x_Market_pairs.scope := ⟨rfl, rfl, rfl, by decide +kernel, rfl, by decide +kernel, by decide +kernel⟩
theorem ok_Market_pairs {P : Program} {w : World} {K : PySem.W.Frag} {mg : Str → Option Value} {base : Heap} (T : Gd K mg base) : FnG P w K mg base d_x_Market_pairs.at_ 2 ["self"] 1 k_Market_pairs :=
  T.fun_ (d := d_x_Market_pairs) 50 (by rfl) sc_Market_pairs rfl (fun cdv A outer s H E hcd hr tk hx hp => have hN := sc_Market_pairs.nd; (d_scons (dset 1 hN (d_lst d_nil)) (d_scons (d_sfor hp rfl (d_wel (glk (by kernel_rfl)) (by exact T.free 8) (d_cons (d_fld (T.cls 11) (T.noat 12) dv) d_nil)) (d_gtup rfl (d_gcons (dgn hN) (d_gcons (dgn hN) d_gnil))) (d_scons (daug 1 hN (d_lc rfl hN (d_wt (d_fld (T.cls 18) (T.noat 22) dv)) (blkOk_by (own := [("room", 4)]) (by kernel_rfl)) (by decide) (fun s H C cl fp => (dgn hN)) (fun s H C cl fp => (d_ts1 (d_valB (w_meth (c := 10) (d_ix (d_fld (T.cls 11) (T.noat 14) dv) dv) (T.cls 18) (T.meth 20) (ok_Wish_has T) (rm hr) passNo (d_cons dv d_nil))))) (fun s H C cl fp => (d_tup (d_cons dv (d_cons dv d_nil))))) iop_ext p_ext) d_snil)) (d_scons (d_sret (d_callTy call_tuple_of p_tuple (glk (by kernel_rfl)) (by exact T.free 0) (by kernel_rfl) (d_cons dv d_nil))) d_snil))))
    (fun fd F => F.bindsN fun _ _ _ _ _ _ us hl => match us, hl with | [_], _ => rfl)
theorem sc_Wish_better : FnScope ["self", "one", "other", "left", "right"] ["self", "one", "other"] d_x_Wish_better.scope := ⟨rfl, rfl, rfl, by decide +kernel, rfl, by decide +kernel, by decide +kernel⟩
theorem ok_Wish_better {P : Program} {w : World} {K : PySem.W.Frag} {mg : Str → Option Value} {base : Heap} (T : Gd K mg base) : FnG P w K mg base d_x_Wish_better.at_ 2 ["self", "one", "other"] 3 k_Wish_better :=
  T.fun_ (d := d_x_Wish_better) 51 (by rfl) sc_Wish_better rfl (fun cdv A outer s H E hcd hr tk hx hp => have hN := sc_Wish_better.nd; (d_scons (dpar2 hN (d_cons (w_meth (c := 10) dv (T.cls 18) (T.meth 23) (ok_Wish_rank T) (rm hr) hx (d_cons dv d_nil)) (d_cons (w_meth (c := 10) dv (T.cls 18) (T.meth 23) (ok_Wish_rank T) (rm hr) hx (d_cons dv d_nil)) d_nil))) (d_scons (d_sret (d_andV (d_cmp op_notN p_notN dv d_non) (d_oneV (d_orV (d_cmp op_isN p_isN dv d_non) (d_oneV (d_cmp op_lt p_cmp dv dv)))))) d_snil)))
    (fun fd F => F.bindsN fun _ _ _ _ _ _ us hl => match us, hl with | [_, _, _], _ => rfl)
theorem sc_why_not : FnScope ["market", "match", "asker", "room", "inside", "wish", "other"] ["market", "match", "asker", "room"] d_x_why_not.scope := ⟨rfl, rfl, rfl, by decide +kernel, rfl, by decide +kernel, by decide +kernel⟩
theorem ok_why_not {P : Program} {w : World} {K : PySem.W.Frag} {mg : Str → Option Value} {base : Heap} (T : Gd K mg base) : FnG P w K mg base d_x_why_not.at_ 3 ["market", "match", "asker", "room"] 4 k_why_not :=
  T.fun_ (d := d_x_why_not) 52 (by rfl) sc_why_not rfl (fun cdv A outer s H E hcd hr tk hx hp => have hN := sc_why_not.nd; (d_scons (d_sif (d_valB (w_meth (c := 10) (d_ix (d_fld (T.cls 11) (T.noat 12) dv) dv) (T.cls 18) (T.meth 92) (ok_Wish_better T) (rm hr) hx (d_cons (d_ix dv dv) (d_cons dv d_nil)))) d_noSs d_snil) (d_scons (d_sasg (d_tup (d_cons (w_call (ok_those_in T) (rm hr) (glk (by kernel_rfl)) (by exact T.glo 21) hx (d_cons dv (d_cons dv d_nil))) (d_cons (d_ix (d_fld (T.cls 11) (T.noat 14) dv) dv) d_nil))) (d_gtup rfl (d_gcons (dgn hN) (d_gcons (dgn hN) d_gnil)))) (d_scons (d_sif (PW.pt (d_and (d_tcmp (op_eqD (hu64 hr)) p_eq (d_callB call_lenA p_len (glk (by kernel_rfl)) (by exact T.free 2) (by kernel_rfl) (d_cons dv d_nil)) (d_ix (d_fld (T.cls 11) (T.noat 17) dv) dv)) d_noW)) d_noSs d_snil) (d_scons (w_raise (c := 4) rfl tk (T.exc 36) (glk (by kernel_rfl)) (by exact T.glo 37)) d_snil)))))
    (fun fd F => F.bindsN fun _ _ _ _ _ _ us hl => match us, hl with | [_, _, _, _], _ => rfl)
theorem sc_stable_paper : FnScope ["market", "match", "found", "asker", "room"] ["market", "match"] d_x_stable_paper.scope := ⟨rfl, rfl, rfl, by decide +kernel, rfl, by decide +kernel, by decide +kernel⟩
theorem ok_stable_paper {P : Program} {w : World} {K : PySem.W.Frag} {mg : Str → Option Value} {base : Heap} (T : Gd K mg base) : FnG P w K mg base d_x_stable_paper.at_ 4 ["market", "match"] 2 k_stable_paper :=
  T.fun_ (d := d_x_stable_paper) 53 (by rfl) sc_stable_paper rfl (fun cdv A outer s H E hcd hr tk hx hp => have hN := sc_stable_paper.nd; (d_scons (dset 2 hN (d_lst d_nil)) (d_scons (d_sfor hp rfl (d_wt (w_meth0 (c := 11) dv (T.cls 11) (T.meth 91) (ok_Market_pairs T) (rm hr) hx)) (d_gtup rfl (d_gcons (dgn hN) (d_gcons (dgn hN) d_gnil))) (d_scons (d_sif (d_tcmp (op_neD (hu64 hr)) p_ne (d_ix dv dv) dv) (d_scons (d_sexpr (d_bm lstTy F.plainAttrs_list F.slot_list_append F.type_list_append mtAppend p_append dv (d_cons (d_tup (d_cons dv (d_cons dv (d_cons (w_call (ok_why_not T) (rm hr) (glk (by kernel_rfl)) (by exact T.glo 93) hx (d_cons dv (d_cons dv (d_cons dv (d_cons dv d_nil))))) d_nil)))) d_nil))) d_snil) d_snil) d_snil)) d_noSs)))
    (fun fd F => F.bindsN fun _ _ _ _ _ _ us hl => match us, hl with | [_, _], _ => rfl)
theorem sc_check_best : FnScope ["market", "match", "paper", "gone", "asker", "room", "holders", "wish", "one", "holder"] ["market", "match", "paper"] d_x_check_best.scope := ⟨rfl, rfl, rfl, by decide +kernel, rfl, by decide +kernel, by decide +kernel⟩
theorem ok_check_best {P : Program} {w : World} {K : PySem.W.Frag} {mg : Str → Option Value} {base : Heap} (T : Gd K mg base) : FnG P w K mg base d_x_check_best.at_ 4 ["market", "match", "paper"] 3 k_check_best :=
  T.fun_ (d := d_x_check_best) 54 (by rfl) sc_check_best rfl (fun cdv A outer s H E hcd hr tk hx hp => have hN := sc_check_best.nd; (d_scons (dset 3 hN d_dnewT) (d_scons (d_sfor hp rfl (d_wt dv) (d_gtup rfl (d_gcons (dgn hN) (d_gcons (dgn hN) (d_gcons (dgn hN) d_gnil)))) d_noSs) (d_scons (d_sfor hp rfl (d_wel (glk (by kernel_rfl)) (by exact T.free 8) (d_cons (d_fld (T.cls 11) (T.noat 12) dv) d_nil)) (d_gtup rfl (d_gcons (dgn hN) (d_gcons (dgn hN) d_gnil))) (d_scons (d_sif (d_valB (d_gx1 (cn := .any) (glk (by kernel_rfl)) (by exact T.free 5) (T.gx (own := [("room", 5)]) 15 0 hcd hN (rm hr)) (T.tm 15) (by decide) (d_wt (w_meth (c := 10) dv (T.cls 18) (T.meth 24) (ok_Wish_ahead_of T) (rm hr) hx (d_cons (d_ix dv dv) d_nil))) (by intro _; rfl) (fun s H cl C cv A1 fp pn hrg => (dgn hN)) (fun s H cl C cv A1 fp pn hrg => d_ts0) (fun s H cl C cv A1 fp pn hrg => (d_dnotin (hu1 hrg) (d_tup (d_cons dv (d_cons dv d_nil))) dv)))) (d_scons (w_raise (c := 4) rfl tk (T.exc 36) (glk (by kernel_rfl)) (by exact T.glo 37)) d_snil) d_snil) d_snil)) d_noSs))))
    (fun fd F => F.bindsN fun _ _ _ _ _ _ us hl => match us, hl with | [_, _, _], _ => rfl)
theorem sc_Tied_likes : FnScope ["self", "asker", "room"] ["self", "asker", "room"] d_x_Tied_likes.scope := ⟨rfl, rfl, rfl, by decide +kernel, rfl, by decide +kernel, by decide +kernel⟩
theorem ok_Tied_likes {P : Program} {w : World} {K : PySem.W.Frag} {mg : Str → Option Value} {base : Heap} (T : Gd K mg base) : FnG P w K mg base d_x_Tied_likes.at_ 1 ["self", "asker", "room"] 3 k_Tied_likes :=
  T.fun_ (d := d_x_Tied_likes) 55 (by rfl) sc_Tied_likes rfl (fun cdv A outer s H E hcd hr tk hx hp => have hN := sc_Tied_likes.nd; (d_scons (d_sret (d_andV (d_cmp op_inAll p_in dv (d_ix (d_fld (T.cls 96) (T.noat 97) dv) dv)) (d_oneV (d_din (hu1 hr) dv (d_ix (d_fld (T.cls 96) (T.noat 98) dv) dv))))) d_snil))
    (fun fd F => F.bindsN fun _ _ _ _ _ _ us hl => match us, hl with | [_, _, _], _ => rfl)
theorem sc_Strong_init : FnScope ["self", "tied", "groups", "room", "asker", "order"] ["self", "tied"] d_x_Strong_init.scope := ⟨rfl, rfl, rfl, by decide +kernel, rfl, by decide +kernel, by decide +kernel⟩
theorem ok_Strong_init {P : Program} {w : World} {K : PySem.W.Frag} {mg : Str → Option Value} {base : Heap} (T : Gd K mg base) : FnG P w K mg base d_x_Strong_init.at_ 2 ["self", "tied"] 2 k_Strong_init :=
  T.fun_ (d := d_x_Strong_init) 56 (by rfl) sc_Strong_init rfl (fun cdv A outer s H E hcd hr tk hx hp => have hN := sc_Strong_init.nd; (d_scons (d_setF (T.cls 94) (T.noat 95) dv dv) (d_scons (d_setF (T.cls 94) (T.noat 100) dv (d_lc rfl hN (d_wel (glk (by kernel_rfl)) (by exact T.free 8) (d_cons (d_fld (T.cls 96) (T.noat 97) dv) d_nil)) (blkOk_by (own := [("asker", 4), ("order", 5)]) (by kernel_rfl)) (by decide) (fun s H C cl fp => (d_gtup rfl (d_gcons (dgn hN) (d_gcons (dgn hN) d_gnil)))) (fun s H C cl fp => d_ts0) (fun s H C cl fp => (d_lc rfl hN (d_wt dv) (blkOk_by (own := [("room", 3)]) (by kernel_rfl)) (by decide) (fun s H C cl fp => (dgn hN)) (fun s H C cl fp => (d_ts1 (d_valB (w_meth (c := 24) dv (T.cls 96) (T.meth 99) (ok_Tied_likes T) (rm hr) passNo (d_cons dv (d_cons dv d_nil)))))) (fun s H C cl fp => dv))))) (d_scons (d_setF (T.cls 94) (T.noat 102) dv (d_lc rfl hN (d_wl (d_fld (T.cls 96) (T.noat 101) dv)) (blkOk_by (own := [("groups", 2)]) (by kernel_rfl)) (by decide) (fun s H C cl fp => (dgn hN)) (fun s H C cl fp => d_ts0) (fun s H C cl fp => (d_lst d_nil)))) (d_scons (d_setF (T.cls 94) (T.noat 103) dv (d_op op_mulAll p_mul (d_lst (d_cons d_bl d_nil)) (d_callB call_lenA p_len (glk (by kernel_rfl)) (by exact T.free 2) (by kernel_rfl) (d_cons (d_fld (T.cls 96) (T.noat 101) dv) d_nil)))) (d_scons (d_setF (T.cls 94) (T.noat 104) dv (d_lst d_nil)) d_snil))))))
    (fun fd F => F.bindsN fun _ _ _ _ _ _ us hl => match us, hl with | [_, _], _ => rfl)
theorem sc_Strong_holds : FnScope ["self", "asker", "inside"] ["self", "asker"] d_x_Strong_holds.scope := ⟨rfl, rfl, rfl, by decide +kernel, rfl, by decide +kernel, by decide +kernel⟩
theorem ok_Strong_holds {P : Program} {w : World} {K : PySem.W.Frag} {mg : Str → Option Value} {base : Heap} (T : Gd K mg base) : FnG P w K mg base d_x_Strong_holds.at_ 4 ["self", "asker"] 2 k_Strong_holds :=
  T.fun_ (d := d_x_Strong_holds) 57 (by rfl) sc_Strong_holds rfl (fun cdv A outer s H E hcd hr tk hx hp => have hN := sc_Strong_holds.nd; (d_scons (d_sret (d_gx1 (cn := .any) (glk (by kernel_rfl)) (by exact T.free 5) (T.gx (own := [("inside", 2)]) 16 0 hcd hN (rm hr)) (T.tm 16) (by decide) (d_wl (d_fld (T.cls 94) (T.noat 102) dv)) (by intro _; rfl) (fun s H cl C cv A1 fp pn hrg => (dgn hN)) (fun s H cl C cv A1 fp pn hrg => d_ts0) (fun s H cl C cv A1 fp pn hrg => (d_cmp op_inAll p_in dv dv)))) d_snil))
    (fun fd F => F.bindsN fun _ _ _ _ _ _ us hl => match us, hl with | [_, _], _ => rfl)
theorem sc_Strong_still_asking : FnScope ["self", "asker", "order"] ["self"] d_x_Strong_still_asking.scope := ⟨rfl, rfl, rfl, by decide +kernel, rfl, by decide +kernel, by decide +kernel⟩
theorem ok_Strong_still_asking {P : Program} {w : World} {K : PySem.W.Frag} {mg : Str → Option Value} {base : Heap} (T : Gd K mg base) : FnG P w K mg base d_x_Strong_still_asking.at_ 5 ["self"] 1 k_Strong_still_asking :=
  T.fun_ (d := d_x_Strong_still_asking) 58 (by rfl) sc_Strong_still_asking rfl (fun cdv A outer s H E hcd hr tk hx hp => have hN := sc_Strong_still_asking.nd; (d_scons (d_sret (d_lc rfl hN (d_wel (glk (by kernel_rfl)) (by exact T.free 8) (d_cons (d_fld (T.cls 94) (T.noat 100) dv) d_nil)) (blkOk_by (own := [("asker", 1), ("order", 2)]) (by kernel_rfl)) (by decide) (fun s H C cl fp => (d_gtup rfl (d_gcons (dgn hN) (d_gcons (dgn hN) d_gnil)))) (fun s H C cl fp => (d_ts1 (PW.pt (d_and (d_tcmp (op_neD (hu64 hr)) p_ne dv (d_lst d_nil)) (d_and1 (d_not (d_valB (w_meth (c := 25) dv (T.cls 94) (T.meth 107) (ok_Strong_holds T) (rm hr) passNo (d_cons dv d_nil))))))))) (fun s H C cl fp => dv))) d_snil))
    (fun fd F => F.bindsN fun _ _ _ _ _ _ us hl => match us, hl with | [_], _ => rfl)
theorem sc_Strong_ask : FnScope ["self", "asker", "room", "ranks", "other"] ["self", "asker"] d_x_Strong_ask.scope := ⟨rfl, rfl, rfl, by decide +kernel, rfl, by decide +kernel, by decide +kernel⟩
theorem ok_Strong_ask {P : Program} {w : World} {K : PySem.W.Frag} {mg : Str → Option Value} {base : Heap} (T : Gd K mg base) : FnG P w K mg base d_x_Strong_ask.at_ 1 ["self", "asker"] 2 k_Strong_ask :=
  T.fun_ (d := d_x_Strong_ask) 59 (by rfl) sc_Strong_ask rfl (fun cdv A outer s H E hcd hr tk hx hp => have hN := sc_Strong_ask.nd; (d_scons (dset 2 hN (d_ix (d_ix (d_fld (T.cls 94) (T.noat 100) dv) dv) d_int)) (d_scons (dset 3 hN (d_ix (d_fld (T.cls 96) (T.noat 98) (d_fld (T.cls 94) (T.noat 95) dv)) dv)) (d_scons (d_putL (d_fld (T.cls 94) (T.noat 103) dv) dv d_bl) (d_scons (d_sexpr (d_bm lstTy F.plainAttrs_list F.slot_list_append F.type_list_append mtAppend p_append (d_ix (d_fld (T.cls 94) (T.noat 102) dv) dv) (d_cons dv d_nil))) (d_scons (d_sfor hp rfl (d_wl (d_callB (call_sortA rfl) p_sorted (glk (by kernel_rfl)) (by exact T.free 6) (by kernel_rfl) (d_cons dv d_nil))) (dgn hN) (d_scons (d_sif (d_tcmp op_gt p_cmp (d_dix (hu1 hr) dv dv) (d_dix (hu1 hr) dv dv)) d_noSs d_snil) d_snil)) (d_scons (d_sif (d_tcmp op_gt p_cmp (d_callB call_lenA p_len (glk (by kernel_rfl)) (by exact T.free 2) (by kernel_rfl) (d_cons (d_ix (d_fld (T.cls 94) (T.noat 102) dv) dv) d_nil)) d_int) d_noSs d_snil) d_snil)))))))
    (fun fd F => F.bindsN fun _ _ _ _ _ _ us hl => match us, hl with | [_, _], _ => rfl)
theorem sc_Strong_go_on : FnScope ["self", "waiting"] ["self"] d_x_Strong_go_on.scope := ⟨rfl, rfl, rfl, by decide +kernel, rfl, by decide +kernel, by decide +kernel⟩
theorem ok_Strong_go_on {P : Program} {w : World} {K : PySem.W.Frag} {mg : Str → Option Value} {base : Heap} (T : Gd K mg base) : FnG P w K mg base d_x_Strong_go_on.at_ 6 ["self"] 1 k_Strong_go_on :=
  T.fun_ (d := d_x_Strong_go_on) 60 (by rfl) sc_Strong_go_on rfl (fun cdv A outer s H E hcd hr tk hx hp => have hN := sc_Strong_go_on.nd; (d_scons (dset 1 hN (w_meth0 (c := 25) dv (T.cls 94) (T.meth 108) (ok_Strong_still_asking T) (rm hr) hx)) (d_scons (d_swhile hp (d_tcmp (op_neD (hu64 hr)) p_ne dv (d_lst d_nil)) (d_scons (d_sexpr (w_meth (c := 25) dv (T.cls 94) (T.meth 109) (ok_Strong_ask T) (rm hr) hx (d_cons (d_ix dv d_int) d_nil))) (d_scons (dset 1 hN (w_meth0 (c := 25) dv (T.cls 94) (T.meth 108) (ok_Strong_still_asking T) (rm hr) hx)) d_snil))) d_snil)))
    (fun fd F => F.bindsN fun _ _ _ _ _ _ us hl => match us, hl with | [_], _ => rfl)
end K33
namespace K33
open PySem PySem.Spec PyProof.Rows L2
theorem sc_check_none : FnScope ["tied", "room", "strong"] ["tied", "room"] d_x_check_none.scope := ⟨rfl, rfl, rfl, by decide +kernel, rfl, by decide +kernel, by decide +kernel⟩
theorem ok_check_none {P : Program} {w : World} {K : PySem.W.Frag} {mg : Str → Option Value} {base : Heap} (T : Gd K mg base) : FnG P w K mg base d_x_check_none.at_ 7 ["tied", "room"] 2 k_check_none :=
  T.fun_ (d := d_x_check_none) 61 (by rfl) sc_check_none rfl (fun cdv A outer s H E hcd hr tk hx hp => have hN := sc_check_none.nd; (d_scons (dset 2 hN (w_make (T.mkr 105) (ok_Strong_init T) (rm hr) (glk (by kernel_rfl)) (by exact T.glo 106) hx (d_cons dv d_nil))) (d_scons (d_sexpr (w_meth0 (c := 25) dv (T.cls 94) (T.meth 110) (ok_Strong_go_on T) (rm hr) hx)) (d_scons (d_sif (PW.pt (d_or (d_not (d_tchain op_le p_cmp op_lt p_cmp d_int dv (d_callB call_lenA p_len (glk (by kernel_rfl)) (by exact T.free 2) (by kernel_rfl) (d_cons (d_fld (T.cls 94) (T.noat 103) dv) d_nil)))) (d_or (d_not (d_valB (d_ix (d_fld (T.cls 94) (T.noat 103) dv) dv))) (d_or1 (d_tcmp (op_neD (hu64 hr)) p_ne (d_ix (d_fld (T.cls 94) (T.noat 102) dv) dv) (d_lst d_nil)))))) (d_scons (w_raise (c := 4) rfl tk (T.exc 36) (glk (by kernel_rfl)) (by exact T.glo 37)) d_snil) d_snil) d_noSs))))
    (fun fd F => F.bindsN fun _ _ _ _ _ _ us hl => match us, hl with | [_, _], _ => rfl)
theorem sc_must_be_stable : FnScope ["market", "one", "other"] ["market", "one", "other"] d_x_must_be_stable.scope := ⟨rfl, rfl, rfl, by decide +kernel, rfl, by decide +kernel, by decide +kernel⟩
theorem ok_must_be_stable {P : Program} {w : World} {K : PySem.W.Frag} {mg : Str → Option Value} {base : Heap} (T : Gd K mg base) : FnG P w K mg base d_x_must_be_stable.at_ 6 ["market", "one", "other"] 3 k_must_be_stable :=
  T.fun_ (d := d_x_must_be_stable) 62 (by rfl) sc_must_be_stable rfl (fun cdv A outer s H E hcd hr tk hx hp => have hN := sc_must_be_stable.nd; (d_scons (d_sif (PW.pt (d_or (d_not (d_valB (w_call (ok_is_stable T) (rm hr) (glk (by kernel_rfl)) (by exact T.glo 111) hx (d_cons dv (d_cons dv d_nil))))) d_noW)) (d_scons (w_raise (c := 3) rfl tk (T.exc 15) (glk (by kernel_rfl)) (by exact T.glo 16)) d_snil) d_snil) d_snil))
    (fun fd F => F.bindsN fun _ _ _ _ _ _ us hl => match us, hl with | [_, _, _], _ => rfl)
theorem sc_better_of : FnScope ["market", "one", "other", "k"] ["market", "one", "other"] d_x_better_of.scope := ⟨rfl, rfl, rfl, by decide +kernel, rfl, by decide +kernel, by decide +kernel⟩
theorem ok_better_of {P : Program} {w : World} {K : PySem.W.Frag} {mg : Str → Option Value} {base : Heap} (T : Gd K mg base) : FnG P w K mg base d_x_better_of.at_ 7 ["market", "one", "other"] 3 k_better_of :=
  T.fun_ (d := d_x_better_of) 63 (by rfl) sc_better_of rfl (fun cdv A outer s H E hcd hr tk hx hp => have hN := sc_better_of.nd; (d_scons (d_sexpr (w_call (ok_must_be_stable T) (rm hr) (glk (by kernel_rfl)) (by exact T.glo 112) hx (d_cons dv (d_cons dv (d_cons dv d_nil))))) d_noSs))
    (fun fd F => F.bindsN fun _ _ _ _ _ _ us hl => match us, hl with | [_, _, _], _ => rfl)
theorem sc_check_worths : FnScope ["rows", "found", "row", "worth"] ["rows"] d_x_check_worths.scope := ⟨rfl, rfl, rfl, by decide +kernel, rfl, by decide +kernel, by decide +kernel⟩
theorem ok_check_worths {P : Program} {w : World} {K : PySem.W.Frag} {mg : Str → Option Value} {base : Heap} (T : Gd K mg base) : FnG P w K mg base d_x_check_worths.at_ 4 ["rows"] 1 k_check_worths :=
  T.fun_ (d := d_x_check_worths) 64 (by rfl) sc_check_worths rfl (fun cdv A outer s H E hcd hr tk hx hp => have hN := sc_check_worths.nd; (d_scons (dset 1 hN (d_lc rfl hN (d_wl dv) (blkOk_by (own := [("row", 2)]) (by kernel_rfl)) (by decide) (fun s H C cl fp => (dgn hN)) (fun s H C cl fp => d_ts0) (fun s H C cl fp => (d_callTy call_tuple_of p_tuple (glk (by kernel_rfl)) (by exact T.free 0) (by kernel_rfl) (d_cons dv d_nil))))) (d_scons (d_sif (PW.pt (d_or (d_valB (d_gx1 (cn := .any) (glk (by kernel_rfl)) (by exact T.free 5) (T.gx (own := [("row", 2)]) 17 0 hcd hN (rm hr)) (T.tm 17) (by decide) (d_wl dv) (by intro _; rfl) (fun s H cl C cv A1 fp pn hrg => (dgn hN)) (fun s H cl C cv A1 fp pn hrg => d_ts0) (fun s H cl C cv A1 fp pn hrg => (d_cmp (op_neD (hu64 hrg)) p_ne (d_callB call_lenA p_len (glk (by kernel_rfl)) (by exact T.free 2) (by kernel_rfl) (d_cons dv d_nil)) (d_callB call_lenA p_len (glk (by kernel_rfl)) (by exact T.free 2) (by kernel_rfl) (d_cons (d_ix dv d_int) d_nil)))))) d_noW)) (d_scons (w_raise (c := 5) rfl tk (T.exc 9) (glk (by kernel_rfl)) (by exact T.glo 10)) d_snil) d_snil) d_noSs)))
    (fun fd F => F.bindsN fun _ _ _ _ _ _ us hl => match us, hl with | [_], _ => rfl)
theorem sc_Search_init : FnScope ["self", "rows", "row", "worth"] ["self", "rows"] d_x_Search_init.scope := ⟨rfl, rfl, rfl, by decide +kernel, rfl, by decide +kernel, by decide +kernel⟩
theorem ok_Search_init {P : Program} {w : World} {K : PySem.W.Frag} {mg : Str → Option Value} {base : Heap} (T : Gd K mg base) : FnG P w K mg base d_x_Search_init.at_ 1 ["self", "rows"] 2 k_Search_init :=
  T.fun_ (d := d_x_Search_init) 65 (by rfl) sc_Search_init rfl (fun cdv A outer s H E hcd hr tk hx hp => have hN := sc_Search_init.nd; d_noSs)
    (fun fd F => F.bindsN fun _ _ _ _ _ _ us hl => match us, hl with | [_, _], _ => rfl)
theorem sc_best_pairs : FnScope ["rows", "search", "row", "found", "column", "gains", "one"] ["rows"] d_x_best_pairs.scope := ⟨rfl, rfl, rfl, by decide +kernel, rfl, by decide +kernel, by decide +kernel⟩
theorem ok_best_pairs {P : Program} {w : World} {K : PySem.W.Frag} {mg : Str → Option Value} {base : Heap} (T : Gd K mg base) : FnG P w K mg base d_x_best_pairs.at_ 5 ["rows"] 1 k_best_pairs :=
  T.fun_ (d := d_x_best_pairs) 66 (by rfl) sc_best_pairs rfl (fun cdv A outer s H E hcd hr tk hx hp => have hN := sc_best_pairs.nd; (d_scons (dset 1 hN (w_make (T.mkr 114) (ok_Search_init T) (rm hr) (glk (by kernel_rfl)) (by exact T.glo 115) hx (d_cons (w_call (ok_check_worths T) (rm hr) (glk (by kernel_rfl)) (by exact T.glo 113) hx (d_cons dv d_nil)) d_nil))) d_noSs))
    (fun fd F => F.bindsN fun _ _ _ _ _ _ us hl => match us, hl with | [_], _ => rfl)
theorem sc_check_worth : FnScope ["rows", "pairs", "gains", "prices", "taken", "row", "worths", "column", "one", "worth"] ["rows", "pairs", "gains", "prices"] d_x_check_worth.scope := ⟨rfl, rfl, rfl, by decide +kernel, rfl, by decide +kernel, by decide +kernel⟩
theorem ok_check_worth {P : Program} {w : World} {K : PySem.W.Frag} {mg : Str → Option Value} {base : Heap} (T : Gd K mg base) : FnG P w K mg base d_x_check_worth.at_ 4 ["rows", "pairs", "gains", "prices"] 4 k_check_worth :=
  T.fun_ (d := d_x_check_worth) 67 (by rfl) sc_check_worth rfl (fun cdv A outer s H E hcd hr tk hx hp => have hN := sc_check_worth.nd; (d_scons (d_setLc (j := 4) rfl hN rfl rfl rfl (d_wt dv) (blkOk_by (own := [("column", 7)]) (by kernel_rfl)) (by decide) (fun s H C cl fp => (dgn hN)) (fun s H C cl fp => (d_ts1 (d_tcmp op_notN p_notN dv d_non))) (fun s H C cl fp => dv)) (d_scons (d_sif (PW.pt (d_or (d_tcmp (op_neD (hu64 hr)) p_ne (d_callB call_lenA p_len (glk (by kernel_rfl)) (by exact T.free 2) (by kernel_rfl) (d_cons dv d_nil)) (d_callB call_lenA p_len (glk (by kernel_rfl)) (by exact T.free 2) (by kernel_rfl) (d_cons dv d_nil))) (d_or (d_tcmp (op_neD (hu64 hr)) p_ne (d_callB call_lenA p_len (glk (by kernel_rfl)) (by exact T.free 2) (by kernel_rfl) (d_cons dv d_nil)) (d_callB call_lenA p_len (glk (by kernel_rfl)) (by exact T.free 2) (by kernel_rfl) (d_cons dv d_nil))) (d_or1 (d_valB (d_gx1 (cn := .any) (glk (by kernel_rfl)) (by exact T.free 5) (T.gx (own := [("one", 8)]) 18 0 hcd hN (rm hr)) (T.tm 18) (by decide) (d_wl dv) (by intro _; rfl) (fun s H cl C cv A1 fp pn hrg => (dgn hN)) (fun s H cl C cv A1 fp pn hrg => d_ts0) (fun s H cl C cv A1 fp pn hrg => (d_notV (d_chain op_le p_cmp op_lt p_cmp d_int dv (d_callB call_lenA p_len (glk (by kernel_rfl)) (by exact T.free 2) (by kernel_rfl) (d_cons dv d_nil))))))))))) d_noSs d_snil) (d_scons (d_sif (PW.pt (d_or (d_tcmp (op_neD (hu64 hr)) p_ne (d_callB call_lenA p_len (glk (by kernel_rfl)) (by exact T.free 2) (by kernel_rfl) (d_cons (d_callTy (call_dictA rfl) p_dict (glk (by kernel_rfl)) (by exact T.free 1) (by kernel_rfl) (d_cons (d_lc rfl hN (d_wl dv) (blkOk_by (own := [("column", 7)]) (by kernel_rfl)) (by decide) (fun s H C cl fp => (dgn hN)) (fun s H C cl fp => d_ts0) (fun s H C cl fp => (d_tup (d_cons dv (d_cons d_int d_nil))))) d_nil)) d_nil)) (d_callB call_lenA p_len (glk (by kernel_rfl)) (by exact T.free 2) (by kernel_rfl) (d_cons dv d_nil))) (d_or1 (d_valB (d_gx1 (cn := .any) (glk (by kernel_rfl)) (by exact T.free 5) (T.gx (own := [("row", 5)]) 18 0 hcd hN (rm hr)) (T.tm 18) (by decide) (d_wl dv) (by intro _; rfl) (fun s H cl C cv A1 fp pn hrg => (dgn hN)) (fun s H cl C cv A1 fp pn hrg => d_ts0) (fun s H cl C cv A1 fp pn hrg => (d_cmp (op_neD (hu64 hrg)) p_ne (d_callB call_lenA p_len (glk (by kernel_rfl)) (by exact T.free 2) (by kernel_rfl) (d_cons dv d_nil)) (d_callB call_lenA p_len (glk (by kernel_rfl)) (by exact T.free 2) (by kernel_rfl) (d_cons dv d_nil))))))))) d_noSs d_snil) (d_scons (d_sif (PW.pt (d_or (d_valB (d_gx1 (cn := .any) (glk (by kernel_rfl)) (by exact T.free 5) (T.gx (own := [("one", 8)]) 18 0 hcd hN (rm hr)) (T.tm 18) (by decide) (d_wt dv) (by intro _; rfl) (fun s H cl C cv A1 fp pn hrg => (dgn hN)) (fun s H cl C cv A1 fp pn hrg => d_ts0) (fun s H cl C cv A1 fp pn hrg => (d_cmp op_lt p_cmp dv d_int)))) (d_or1 (d_valB (d_gx1 (cn := .any) (glk (by kernel_rfl)) (by exact T.free 5) (T.gx (own := [("one", 8)]) 18 0 hcd hN (rm hr)) (T.tm 18) (by decide) (d_wt dv) (by intro _; rfl) (fun s H cl C cv A1 fp pn hrg => (dgn hN)) (fun s H cl C cv A1 fp pn hrg => d_ts0) (fun s H cl C cv A1 fp pn hrg => (d_cmp op_lt p_cmp dv d_int))))))) d_noSs d_snil) (d_scons (d_sfor hp rfl (d_wel (glk (by kernel_rfl)) (by exact T.free 8) (d_cons dv d_nil)) (d_gtup rfl (d_gcons (dgn hN) (d_gcons (dgn hN) d_gnil))) (d_scons (d_sif (d_valB (d_gx1 (cn := .any) (glk (by kernel_rfl)) (by exact T.free 5) (T.gx (own := [("column", 7), ("worth", 9)]) 18 0 hcd hN (rm hr)) (T.tm 18) (by decide) (d_wet (glk (by kernel_rfl)) (by exact T.free 8) (d_cons dv d_nil)) (by intro _; rfl) (fun s H cl C cv A1 fp pn hrg => (d_gtup rfl (d_gcons (dgn hN) (d_gcons (dgn hN) d_gnil)))) (fun s H cl C cv A1 fp pn hrg => d_ts0) (fun s H cl C cv A1 fp pn hrg => (d_cmp op_lt p_cmp (d_op op_addAll p_add (d_ix dv dv) (d_ix dv dv)) dv)))) (d_scons (w_raise (c := 4) rfl tk (T.exc 36) (glk (by kernel_rfl)) (by exact T.glo 37)) d_snil) d_snil) d_snil)) d_noSs))))))
    (fun fd F => F.bindsN fun _ _ _ _ _ _ us hl => match us, hl with | [_, _, _, _], _ => rfl)
theorem sc_Market_init : FnScope ["self", "lists", "orders", "seats", "order", "count"] ["self", "lists", "orders", "seats"] d_x_Market_init.scope := ⟨rfl, rfl, rfl, by decide +kernel, rfl, by decide +kernel, by decide +kernel⟩
theorem ok_Market_init {P : Program} {w : World} {K : PySem.W.Frag} {mg : Str → Option Value} {base : Heap} (T : Gd K mg base) : FnG P w K mg base d_x_Market_init.at_ 5 ["self", "lists", "orders", "seats"] 4 k_Market_init :=
  T.fun_ (d := d_x_Market_init) 68 (by rfl) sc_Market_init rfl (fun cdv A outer s H E hcd hr tk hx hp => have hN := sc_Market_init.nd; (d_scons (d_sif (PW.pt (d_or (d_tcmp (op_neD (hu64 hr)) p_ne (d_callB call_lenA p_len (glk (by kernel_rfl)) (by exact T.free 2) (by kernel_rfl) (d_cons dv d_nil)) (d_callB call_lenA p_len (glk (by kernel_rfl)) (by exact T.free 2) (by kernel_rfl) (d_cons dv d_nil))) (d_or1 (d_valB (d_gx1 (cn := .any) (glk (by kernel_rfl)) (by exact T.free 5) (T.gx (own := [("count", 5)]) 19 0 hcd hN (rm hr)) (T.tm 19) (by decide) (d_wl dv) (by intro _; rfl) (fun s H cl C cv A1 fp pn hrg => (dgn hN)) (fun s H cl C cv A1 fp pn hrg => d_ts0) (fun s H cl C cv A1 fp pn hrg => (d_cmp op_lt p_cmp dv d_int))))))) (d_scons (w_raise (c := 2) rfl tk (T.exc 116) (glk (by kernel_rfl)) (by exact T.glo 117)) d_snil) d_snil) (d_scons (d_setF (T.cls 11) (T.noat 12) dv (d_lc rfl hN (d_wl dv) (blkOk_by (own := [("order", 4)]) (by kernel_rfl)) (by decide) (fun s H C cl fp => (dgn hN)) (fun s H C cl fp => d_ts0) (fun s H C cl fp => (w_make (T.mkr 80) (ok_Wish_init T) (rm hr) (glk (by kernel_rfl)) (by exact T.glo 81) passNo (d_cons (w_call (ok_check_list T) (rm hr) (glk (by kernel_rfl)) (by exact T.glo 7) passNo (d_cons dv (d_cons (d_callB call_lenA p_len (glk (by kernel_rfl)) (by exact T.free 2) (by kernel_rfl) (d_cons dv d_nil)) d_nil))) d_nil))))) (d_scons (d_setF (T.cls 11) (T.noat 14) dv (d_lc rfl hN (d_wl dv) (blkOk_by (own := [("order", 4)]) (by kernel_rfl)) (by decide) (fun s H C cl fp => (dgn hN)) (fun s H C cl fp => d_ts0) (fun s H C cl fp => (w_make (T.mkr 80) (ok_Wish_init T) (rm hr) (glk (by kernel_rfl)) (by exact T.glo 81) passNo (d_cons (w_call (ok_check_list T) (rm hr) (glk (by kernel_rfl)) (by exact T.glo 7) passNo (d_cons dv (d_cons (d_callB call_lenA p_len (glk (by kernel_rfl)) (by exact T.free 2) (by kernel_rfl) (d_cons dv d_nil)) d_nil))) d_nil))))) (d_scons (d_setF (T.cls 11) (T.noat 17) dv (d_callTy call_tuple_of p_tuple (glk (by kernel_rfl)) (by exact T.free 0) (by kernel_rfl) (d_cons dv d_nil))) d_snil)))))
    (fun fd F => F.bindsN fun _ _ _ _ _ _ us hl => match us, hl with | [_, _, _, _], _ => rfl)
theorem sc_Market_shown : FnScope ["self", "wish"] ["self"] d_x_Market_shown.scope := ⟨rfl, rfl, rfl, by decide +kernel, rfl, by decide +kernel, by decide +kernel⟩
theorem ok_Market_shown {P : Program} {w : World} {K : PySem.W.Frag} {mg : Str → Option Value} {base : Heap} (T : Gd K mg base) : FnG P w K mg base d_x_Market_shown.at_ 1 ["self"] 1 k_Market_shown :=
  T.fun_ (d := d_x_Market_shown) 69 (by rfl) sc_Market_shown rfl (fun cdv A outer s H E hcd hr tk hx hp => have hN := sc_Market_shown.nd; (d_scons (d_sret (d_tup (d_cons (d_callTy call_tuple_of p_tuple (glk (by kernel_rfl)) (by exact T.free 0) (by kernel_rfl) (d_cons (d_lc rfl hN (d_wl (d_fld (T.cls 11) (T.noat 12) dv)) (blkOk_by (own := [("wish", 1)]) (by kernel_rfl)) (by decide) (fun s H C cl fp => (dgn hN)) (fun s H C cl fp => d_ts0) (fun s H C cl fp => (d_fld (T.cls 18) (T.noat 22) dv))) d_nil)) (d_cons (d_callTy call_tuple_of p_tuple (glk (by kernel_rfl)) (by exact T.free 0) (by kernel_rfl) (d_cons (d_lc rfl hN (d_wl (d_fld (T.cls 11) (T.noat 14) dv)) (blkOk_by (own := [("wish", 1)]) (by kernel_rfl)) (by decide) (fun s H C cl fp => (dgn hN)) (fun s H C cl fp => d_ts0) (fun s H C cl fp => (d_fld (T.cls 18) (T.noat 22) dv))) d_nil)) (d_cons (d_fld (T.cls 11) (T.noat 17) dv) d_nil))))) d_snil))
    (fun fd F => F.bindsN fun _ _ _ _ _ _ us hl => match us, hl with | [_], _ => rfl)
theorem sc_Fair_likes : FnScope ["self", "asker", "room"] ["self", "asker", "room"] d_x_Fair_likes.scope := ⟨rfl, rfl, rfl, by decide +kernel, rfl, by decide +kernel, by decide +kernel⟩
theorem ok_Fair_likes {P : Program} {w : World} {K : PySem.W.Frag} {mg : Str → Option Value} {base : Heap} (T : Gd K mg base) : FnG P w K mg base d_x_Fair_likes.at_ 1 ["self", "asker", "room"] 3 k_Fair_likes :=
  T.fun_ (d := d_x_Fair_likes) 70 (by rfl) sc_Fair_likes rfl (fun cdv A outer s H E hcd hr tk hx hp => have hN := sc_Fair_likes.nd; (d_scons (d_sif (PW.pt (d_or (d_tdnotin (hu1 hr) dv (d_fld (T.cls 44) (T.noat 45) dv)) (d_or1 (d_tdnotin (hu1 hr) dv (d_fld (T.cls 44) (T.noat 46) dv))))) d_noSs d_snil) (d_scons (d_sret (d_andV (d_cmp op_inAll p_in dv (d_dix (hu1 hr) (d_fld (T.cls 44) (T.noat 45) dv) dv)) (d_oneV (d_cmp op_inAll p_in dv (d_dix (hu1 hr) (d_fld (T.cls 44) (T.noat 46) dv) dv))))) d_snil)))
    (fun fd F => F.bindsN fun _ _ _ _ _ _ us hl => match us, hl with | [_, _, _], _ => rfl)
theorem sc_Fair_those_in : FnScope ["self", "room", "asker"] ["self", "room"] d_x_Fair_those_in.scope := ⟨rfl, rfl, rfl, by decide +kernel, rfl, by decide +kernel, by decide +kernel⟩
theorem ok_Fair_those_in {P : Program} {w : World} {K : PySem.W.Frag} {mg : Str → Option Value} {base : Heap} (T : Gd K mg base) : FnG P w K mg base d_x_Fair_those_in.at_ 1 ["self", "room"] 2 k_Fair_those_in :=
  T.fun_ (d := d_x_Fair_those_in) 71 (by rfl) sc_Fair_those_in rfl (fun cdv A outer s H E hcd hr tk hx hp => have hN := sc_Fair_those_in.nd; (d_scons (d_sret (d_lc rfl hN (d_wt (d_dix (hu1 hr) (d_fld (T.cls 44) (T.noat 46) dv) dv)) (blkOk_by (own := [("asker", 2)]) (by kernel_rfl)) (by decide) (fun s H C cl fp => (dgn hN)) (fun s H C cl fp => (d_ts1 (d_tcmp (op_eqD (hu64 hr)) p_eq (d_get (hu1 hr) (d_fld (T.cls 44) (T.noat 48) dv) dv ⟨rfl, rfl, rfl, rfl⟩) dv))) (fun s H C cl fp => dv))) d_snil))
    (fun fd F => F.bindsN fun _ _ _ _ _ _ us hl => match us, hl with | [_, _], _ => rfl)
theorem sc_Fair_match : FnScope ["self", "asker"] ["self"] d_x_Fair_match.scope := ⟨rfl, rfl, rfl, by decide +kernel, rfl, by decide +kernel, by decide +kernel⟩
theorem ok_Fair_match {P : Program} {w : World} {K : PySem.W.Frag} {mg : Str → Option Value} {base : Heap} (T : Gd K mg base) : FnG P w K mg base d_x_Fair_match.at_ 1 ["self"] 1 k_Fair_match :=
  T.fun_ (d := d_x_Fair_match) 72 (by rfl) sc_Fair_match rfl (fun cdv A outer s H E hcd hr tk hx hp => have hN := sc_Fair_match.nd; (d_scons (d_sret (d_callTy call_tuple_of p_tuple (glk (by kernel_rfl)) (by exact T.free 0) (by kernel_rfl) (d_cons (d_lc rfl hN (d_wl (d_callB (call_sortA rfl) p_sorted (glk (by kernel_rfl)) (by exact T.free 6) (by kernel_rfl) (d_cons (d_fld (T.cls 44) (T.noat 45) dv) d_nil))) (blkOk_by (own := [("asker", 1)]) (by kernel_rfl)) (by decide) (fun s H C cl fp => (dgn hN)) (fun s H C cl fp => d_ts0) (fun s H C cl fp => (d_tup (d_cons dv (d_cons (d_dix (hu1 hr) (d_fld (T.cls 44) (T.noat 48) dv) dv) d_nil))))) d_nil))) d_snil))
    (fun fd F => F.bindsN fun _ _ _ _ _ _ us hl => match us, hl with | [_], _ => rfl)
end K33
namespace K33
open PySem PySem.Spec PyProof.Rows L2
theorem sc_Fair_ask : FnScope ["self", "asker", "room", "inside"] ["self", "asker"] d_x_Fair_ask.scope := ⟨rfl, rfl, rfl, by decide +kernel, rfl, by decide +kernel, by decide +kernel⟩
theorem ok_Fair_ask {P : Program} {w : World} {K : PySem.W.Frag} {mg : Str → Option Value} {base : Heap} (T : Gd K mg base) : FnG P w K mg base d_x_Fair_ask.at_ 2 ["self", "asker"] 2 k_Fair_ask :=
  T.fun_ (d := d_x_Fair_ask) 73 (by rfl) sc_Fair_ask rfl (fun cdv A outer s H E hcd hr tk hx hp => have hN := sc_Fair_ask.nd; (d_scons (dset 2 hN (d_ix (d_dix (hu1 hr) (d_fld (T.cls 44) (T.noat 45) dv) dv) (d_dix (hu1 hr) (d_fld (T.cls 44) (T.noat 49) dv) dv))) (d_scons (d_augD (hu1 hr) in_add p_int (d_fld (T.cls 44) (T.noat 49) dv) dv d_int) (d_scons (d_augF (T.cls 44) (T.noat 50) in_add p_int dv d_int) (d_scons (d_sif (d_not (d_valB (w_meth (c := 12) dv (T.cls 44) (T.meth 118) (ok_Fair_likes T) (rm hr) hx (d_cons dv (d_cons dv d_nil))))) d_noSs d_snil) (d_scons (d_putD (hu1 hr) (d_fld (T.cls 44) (T.noat 48) dv) dv dv) (d_scons (dset 3 hN (w_meth (c := 12) dv (T.cls 44) (T.meth 119) (ok_Fair_those_in T) (rm hr) hx (d_cons dv d_nil))) (d_scons (d_sif (d_tcmp op_le p_cmp (d_callB call_lenA p_len (glk (by kernel_rfl)) (by exact T.free 2) (by kernel_rfl) (d_cons dv d_nil)) (d_dix (hu1 hr) (d_fld (T.cls 44) (T.noat 47) dv) dv)) (d_scons (d_sret d_non) d_snil) d_snil) d_noSs))))))))
    (fun fd F => F.bindsN fun _ _ _ _ _ _ us hl => match us, hl with | [_, _], _ => rfl)
theorem sc_Fair_who_waits : FnScope ["self", "one"] ["self"] d_x_Fair_who_waits.scope := ⟨rfl, rfl, rfl, by decide +kernel, rfl, by decide +kernel, by decide +kernel⟩
theorem ok_Fair_who_waits {P : Program} {w : World} {K : PySem.W.Frag} {mg : Str → Option Value} {base : Heap} (T : Gd K mg base) : FnG P w K mg base d_x_Fair_who_waits.at_ 1 ["self"] 1 k_Fair_who_waits :=
  T.fun_ (d := d_x_Fair_who_waits) 74 (by rfl) sc_Fair_who_waits rfl (fun cdv A outer s H E hcd hr tk hx hp => have hN := sc_Fair_who_waits.nd; (d_scons (d_sret (d_lc rfl hN (d_wl (d_callB (call_sortA rfl) p_sorted (glk (by kernel_rfl)) (by exact T.free 6) (by kernel_rfl) (d_cons (d_fld (T.cls 44) (T.noat 45) dv) d_nil))) (blkOk_by (own := [("one", 1)]) (by kernel_rfl)) (by decide) (fun s H C cl fp => (dgn hN)) (fun s H C cl fp => (d_ts1 (PW.pt (d_and (d_tcmp op_isN p_isN (d_dix (hu1 hr) (d_fld (T.cls 44) (T.noat 48) dv) dv) d_non) (d_and1 (d_tcmp op_lt p_cmp (d_dix (hu1 hr) (d_fld (T.cls 44) (T.noat 49) dv) dv) (d_callB call_lenA p_len (glk (by kernel_rfl)) (by exact T.free 2) (by kernel_rfl) (d_cons (d_dix (hu1 hr) (d_fld (T.cls 44) (T.noat 45) dv) dv) d_nil)))))))) (fun s H C cl fp => dv))) d_snil))
    (fun fd F => F.bindsN fun _ _ _ _ _ _ us hl => match us, hl with | [_], _ => rfl)
theorem sc_Fair_go_on : FnScope ["self", "waiting", "here"] ["self"] d_x_Fair_go_on.scope := ⟨rfl, rfl, rfl, by decide +kernel, rfl, by decide +kernel, by decide +kernel⟩
theorem ok_Fair_go_on {P : Program} {w : World} {K : PySem.W.Frag} {mg : Str → Option Value} {base : Heap} (T : Gd K mg base) : FnG P w K mg base d_x_Fair_go_on.at_ 3 ["self"] 1 k_Fair_go_on :=
  T.fun_ (d := d_x_Fair_go_on) 75 (by rfl) sc_Fair_go_on rfl (fun cdv A outer s H E hcd hr tk hx hp => have hN := sc_Fair_go_on.nd; (d_scons (dset 1 hN (w_meth0 (c := 12) dv (T.cls 44) (T.meth 120) (ok_Fair_who_waits T) (rm hr) hx)) (d_scons (d_swhile hp (d_tcmp (op_neD (hu64 hr)) p_ne dv (d_lst d_nil)) (d_scons (dset 2 hN (d_ix dv d_int)) (d_scons (d_swhile hp (PW.pt (d_and (d_tcmp op_notN p_notN dv d_non) (d_and1 (d_tcmp op_lt p_cmp (d_dix (hu1 hr) (d_fld (T.cls 44) (T.noat 49) dv) dv) (d_callB call_lenA p_len (glk (by kernel_rfl)) (by exact T.free 2) (by kernel_rfl) (d_cons (d_dix (hu1 hr) (d_fld (T.cls 44) (T.noat 45) dv) dv) d_nil)))))) (d_scons (dset 2 hN (w_meth (c := 12) dv (T.cls 44) (T.meth 121) (ok_Fair_ask T) (rm hr) hx (d_cons dv d_nil))) d_snil)) (d_scons (dset 1 hN (w_meth0 (c := 12) dv (T.cls 44) (T.meth 120) (ok_Fair_who_waits T) (rm hr) hx)) d_snil)))) d_snil)))
    (fun fd F => F.bindsN fun _ _ _ _ _ _ us hl => match us, hl with | [_], _ => rfl)
theorem sc_Fair_part_of : FnScope ["self", "askers", "rooms", "moved", "ones", "others", "asker", "room", "one"] ["self", "askers", "rooms"] d_x_Fair_part_of.scope := ⟨rfl, rfl, rfl, by decide +kernel, rfl, by decide +kernel, by decide +kernel⟩
theorem ok_Fair_part_of {P : Program} {w : World} {K : PySem.W.Frag} {mg : Str → Option Value} {base : Heap} (T : Gd K mg base) : FnG P w K mg base d_x_Fair_part_of.at_ 1 ["self", "askers", "rooms"] 3 k_Fair_part_of :=
  T.fun_ (d := d_x_Fair_part_of) 76 (by rfl) sc_Fair_part_of rfl (fun cdv A outer s H E hcd hr tk hx hp => have hN := sc_Fair_part_of.nd; (d_scons (d_sasg (d_tup (d_cons (d_callTy (call_dictA rfl) p_dict (glk (by kernel_rfl)) (by exact T.free 1) (by kernel_rfl) (d_cons (d_lc rfl hN (d_wl dv) (blkOk_by (own := [("one", 8)]) (by kernel_rfl)) (by decide) (fun s H C cl fp => (dgn hN)) (fun s H C cl fp => d_ts0) (fun s H C cl fp => d_noE)) d_nil)) (d_cons (d_callTy (call_dictA rfl) p_dict (glk (by kernel_rfl)) (by exact T.free 1) (by kernel_rfl) (d_cons (d_lc rfl hN (d_wl dv) (blkOk_by (own := [("one", 8)]) (by kernel_rfl)) (by decide) (fun s H C cl fp => (dgn hN)) (fun s H C cl fp => d_ts0) (fun s H C cl fp => (d_tup (d_cons dv (d_cons d_int d_nil))))) d_nil)) d_nil))) (d_gtup rfl (d_gcons (dgn hN) (d_gcons (dgn hN) d_gnil)))) (d_scons (dset 3 hN d_bl) (d_scons (d_swhile hp (d_valB dv) (d_scons (dset 3 hN d_bl) (d_scons (d_forD0 hp (T.cls 44) (T.noat 45)) d_snil))) (d_scons (d_sret (d_lc rfl hN (d_wl (d_callB (call_sortA rfl) p_sorted (glk (by kernel_rfl)) (by exact T.free 6) (by kernel_rfl) (d_cons (d_fld (T.cls 44) (T.noat 45) dv) d_nil))) (blkOk_by (own := [("asker", 6)]) (by kernel_rfl)) (by decide) (fun s H C cl fp => (dgn hN)) (fun s H C cl fp => (d_ts1 d_noB)) (fun s H C cl fp => d_noE))) d_snil)))))
    (fun fd F => F.bindsN fun _ _ _ _ _ _ us hl => match us, hl with | [_, _, _], _ => rfl)
theorem sc_Fair_ask_anew : FnScope ["self", "askers", "asker"] ["self", "askers"] d_x_Fair_ask_anew.scope := ⟨rfl, rfl, rfl, by decide +kernel, rfl, by decide +kernel, by decide +kernel⟩
theorem ok_Fair_ask_anew {P : Program} {w : World} {K : PySem.W.Frag} {mg : Str → Option Value} {base : Heap} (T : Gd K mg base) : FnG P w K mg base d_x_Fair_ask_anew.at_ 4 ["self", "askers"] 2 k_Fair_ask_anew :=
  T.fun_ (d := d_x_Fair_ask_anew) 77 (by rfl) sc_Fair_ask_anew rfl (fun cdv A outer s H E hcd hr tk hx hp => have hN := sc_Fair_ask_anew.nd; (d_scons (d_sfor hp rfl (d_wl dv) (dgn hN) d_noSs) (d_scons (d_sexpr (w_meth0 (c := 12) dv (T.cls 44) (T.meth 122) (ok_Fair_go_on T) (rm hr) hx)) d_snil)))
    (fun fd F => F.bindsN fun _ _ _ _ _ _ us hl => match us, hl with | [_, _], _ => rfl)
theorem sc_Fair_told : FnScope ["self", "before", "words", "word"] ["self", "before"] d_x_Fair_told.scope := ⟨rfl, rfl, rfl, by decide +kernel, rfl, by decide +kernel, by decide +kernel⟩
theorem ok_Fair_told {P : Program} {w : World} {K : PySem.W.Frag} {mg : Str → Option Value} {base : Heap} (T : Gd K mg base) : FnG P w K mg base d_x_Fair_told.at_ 1 ["self", "before"] 2 k_Fair_told :=
  T.fun_ (d := d_x_Fair_told) 78 (by rfl) sc_Fair_told rfl (fun cdv A outer s H E hcd hr tk hx hp => have hN := sc_Fair_told.nd; (d_scons (dset 2 hN (d_callB (call_sortA rfl) p_sorted (glk (by kernel_rfl)) (by exact T.free 6) (by kernel_rfl) (d_cons (d_callTy (call_dictA rfl) p_dict (glk (by kernel_rfl)) (by exact T.free 1) (by kernel_rfl) (d_cons (d_lc rfl hN (d_wl (d_op op_addAll p_add (d_callTy (call_listA rfl) p_list (glk (by kernel_rfl)) (by exact T.free 123) (by kernel_rfl) (d_cons dv d_nil)) (d_callTy (call_listA rfl) p_list (glk (by kernel_rfl)) (by exact T.free 123) (by kernel_rfl) (d_cons (d_fld (T.cls 44) (T.noat 48) dv) d_nil)))) (blkOk_by (own := [("word", 3)]) (by kernel_rfl)) (by decide) (fun s H C cl fp => (dgn hN)) (fun s H C cl fp => d_ts0) (fun s H C cl fp => (d_tup (d_cons dv (d_cons d_int d_nil))))) d_nil)) d_nil))) (d_scons (d_sret (d_callTy call_tuple_of p_tuple (glk (by kernel_rfl)) (by exact T.free 0) (by kernel_rfl) (d_cons (d_lc rfl hN (d_wl dv) (blkOk_by (own := [("word", 3)]) (by kernel_rfl)) (by decide) (fun s H C cl fp => (dgn hN)) (fun s H C cl fp => (d_ts1 (d_tcmp (op_neD (hu64 hr)) p_ne (d_get (hu1 hr) dv dv ⟨rfl, rfl, rfl, rfl⟩) (d_get (hu1 hr) (d_fld (T.cls 44) (T.noat 48) dv) dv ⟨rfl, rfl, rfl, rfl⟩)))) (fun s H C cl fp => (d_tup (d_cons dv (d_cons (d_get (hu1 hr) dv dv ⟨rfl, rfl, rfl, rfl⟩) (d_cons (d_get (hu1 hr) (d_fld (T.cls 44) (T.noat 48) dv) dv ⟨rfl, rfl, rfl, rfl⟩) d_nil)))))) d_nil))) d_snil)))
    (fun fd F => F.bindsN fun _ _ _ _ _ _ us hl => match us, hl with | [_, _], _ => rfl)
theorem sc_Fair_come : FnScope ["self", "asker", "rooms", "before"] ["self", "asker", "rooms"] d_x_Fair_come.scope := ⟨rfl, rfl, rfl, by decide +kernel, rfl, by decide +kernel, by decide +kernel⟩
theorem ok_Fair_come {P : Program} {w : World} {K : PySem.W.Frag} {mg : Str → Option Value} {base : Heap} (T : Gd K mg base) : FnG P w K mg base d_x_Fair_come.at_ 4 ["self", "asker", "rooms"] 3 k_Fair_come :=
  T.fun_ (d := d_x_Fair_come) 79 (by rfl) sc_Fair_come rfl (fun cdv A outer s H E hcd hr tk hx hp => have hN := sc_Fair_come.nd; (d_scons (d_sif (d_tdin (hu1 hr) dv (d_fld (T.cls 44) (T.noat 45) dv)) (d_scons (w_raise (c := 9) rfl tk (T.exc 124) (glk (by kernel_rfl)) (by exact T.glo 125)) d_snil) d_snil) (d_scons (dset 3 hN (d_callTy (call_dictA rfl) p_dict (glk (by kernel_rfl)) (by exact T.free 1) (by kernel_rfl) (d_cons (d_fld (T.cls 44) (T.noat 48) dv) d_nil))) (d_scons (d_putD (hu1 hr) (d_fld (T.cls 44) (T.noat 45) dv) dv (w_call (ok_check_words T) (rm hr) (glk (by kernel_rfl)) (by exact T.glo 126) hx (d_cons dv d_nil))) (d_scons (d_putD (hu1 hr) (d_fld (T.cls 44) (T.noat 48) dv) dv d_non) (d_scons (d_putD (hu1 hr) (d_fld (T.cls 44) (T.noat 49) dv) dv d_int) (d_scons (d_sexpr (w_meth0 (c := 12) dv (T.cls 44) (T.meth 122) (ok_Fair_go_on T) (rm hr) hx)) (d_scons (d_sret (w_meth (c := 12) dv (T.cls 44) (T.meth 127) (ok_Fair_told T) (rm hr) hx (d_cons dv d_nil))) d_snil))))))))
    (fun fd F => F.bindsN fun _ _ _ _ _ _ us hl => match us, hl with | [_, _, _], _ => rfl)
theorem sc_Fair_leave : FnScope ["self", "asker", "before", "part", "one"] ["self", "asker"] d_x_Fair_leave.scope := ⟨rfl, rfl, rfl, by decide +kernel, rfl, by decide +kernel, by decide +kernel⟩
theorem ok_Fair_leave {P : Program} {w : World} {K : PySem.W.Frag} {mg : Str → Option Value} {base : Heap} (T : Gd K mg base) : FnG P w K mg base d_x_Fair_leave.at_ 1 ["self", "asker"] 2 k_Fair_leave :=
  T.fun_ (d := d_x_Fair_leave) 80 (by rfl) sc_Fair_leave rfl (fun cdv A outer s H E hcd hr tk hx hp => have hN := sc_Fair_leave.nd; (d_scons (d_sif (d_tdnotin (hu1 hr) dv (d_fld (T.cls 44) (T.noat 45) dv)) (d_scons (w_raise (c := 8) rfl tk (T.exc 128) (glk (by kernel_rfl)) (by exact T.glo 129)) d_snil) d_snil) d_noSs))
    (fun fd F => F.bindsN fun _ _ _ _ _ _ us hl => match us, hl with | [_, _], _ => rfl)
theorem sc_Fair_set_room : FnScope ["self", "room", "askers", "count"] ["self", "room", "askers", "count"] d_x_Fair_set_room.scope := ⟨rfl, rfl, rfl, by decide +kernel, rfl, by decide +kernel, by decide +kernel⟩
theorem ok_Fair_set_room {P : Program} {w : World} {K : PySem.W.Frag} {mg : Str → Option Value} {base : Heap} (T : Gd K mg base) : FnG P w K mg base d_x_Fair_set_room.at_ 1 ["self", "room", "askers", "count"] 4 k_Fair_set_room :=
  T.fun_ (d := d_x_Fair_set_room) 81 (by rfl) sc_Fair_set_room rfl (fun cdv A outer s H E hcd hr tk hx hp => have hN := sc_Fair_set_room.nd; (d_scons (d_sif (d_tcmp op_lt p_cmp dv d_int) (d_scons (w_raise (c := 2) rfl tk (T.exc 116) (glk (by kernel_rfl)) (by exact T.glo 117)) d_snil) d_snil) (d_scons (d_putD (hu1 hr) (d_fld (T.cls 44) (T.noat 46) dv) dv dv) (d_scons (d_putD (hu1 hr) (d_fld (T.cls 44) (T.noat 47) dv) dv dv) d_snil))))
    (fun fd F => F.bindsN fun _ _ _ _ _ _ us hl => match us, hl with | [_, _, _, _], _ => rfl)
theorem sc_Fair_open_room : FnScope ["self", "room", "askers", "count", "before"] ["self", "room", "askers", "count"] d_x_Fair_open_room.scope := ⟨rfl, rfl, rfl, by decide +kernel, rfl, by decide +kernel, by decide +kernel⟩
theorem ok_Fair_open_room {P : Program} {w : World} {K : PySem.W.Frag} {mg : Str → Option Value} {base : Heap} (T : Gd K mg base) : FnG P w K mg base d_x_Fair_open_room.at_ 5 ["self", "room", "askers", "count"] 4 k_Fair_open_room :=
  T.fun_ (d := d_x_Fair_open_room) 82 (by rfl) sc_Fair_open_room rfl (fun cdv A outer s H E hcd hr tk hx hp => have hN := sc_Fair_open_room.nd; (d_scons (d_sif (d_tdin (hu1 hr) dv (d_fld (T.cls 44) (T.noat 46) dv)) d_noSs d_snil) (d_scons (dset 4 hN (d_callTy (call_dictA rfl) p_dict (glk (by kernel_rfl)) (by exact T.free 1) (by kernel_rfl) (d_cons (d_fld (T.cls 44) (T.noat 48) dv) d_nil))) (d_scons (d_sexpr (w_meth (c := 12) dv (T.cls 44) (T.meth 130) (ok_Fair_set_room T) (rm hr) hx (d_cons dv (d_cons (w_call (ok_check_words T) (rm hr) (glk (by kernel_rfl)) (by exact T.glo 126) hx (d_cons dv d_nil)) (d_cons dv d_nil))))) (d_scons (d_sexpr (w_meth (c := 12) dv (T.cls 44) (T.meth 132) (ok_Fair_ask_anew T) (rm hr) hx (d_cons (w_meth (c := 12) dv (T.cls 44) (T.meth 131) (ok_Fair_part_of T) (rm hr) hx (d_cons (d_lst d_nil) (d_cons (d_lst (d_cons dv d_nil)) d_nil))) d_nil))) (d_scons (d_sret (w_meth (c := 12) dv (T.cls 44) (T.meth 127) (ok_Fair_told T) (rm hr) hx (d_cons dv d_nil))) d_snil))))))
    (fun fd F => F.bindsN fun _ _ _ _ _ _ us hl => match us, hl with | [_, _, _, _], _ => rfl)
theorem sc_Fair_shut_room : FnScope ["self", "room", "before", "part"] ["self", "room"] d_x_Fair_shut_room.scope := ⟨rfl, rfl, rfl, by decide +kernel, rfl, by decide +kernel, by decide +kernel⟩
theorem ok_Fair_shut_room {P : Program} {w : World} {K : PySem.W.Frag} {mg : Str → Option Value} {base : Heap} (T : Gd K mg base) : FnG P w K mg base d_x_Fair_shut_room.at_ 1 ["self", "room"] 2 k_Fair_shut_room :=
  T.fun_ (d := d_x_Fair_shut_room) 83 (by rfl) sc_Fair_shut_room rfl (fun cdv A outer s H E hcd hr tk hx hp => have hN := sc_Fair_shut_room.nd; (d_scons (d_sif (d_tdnotin (hu1 hr) dv (d_fld (T.cls 44) (T.noat 46) dv)) (d_scons (w_raise (c := 8) rfl tk (T.exc 128) (glk (by kernel_rfl)) (by exact T.glo 129)) d_snil) d_snil) d_noSs))
    (fun fd F => F.bindsN fun _ _ _ _ _ _ us hl => match us, hl with | [_, _], _ => rfl)
theorem sc_Fair_change_room : FnScope ["self", "room", "askers", "count", "part", "fresh", "before", "one"] ["self", "room", "askers", "count"] d_x_Fair_change_room.scope := ⟨rfl, rfl, rfl, by decide +kernel, rfl, by decide +kernel, by decide +kernel⟩
theorem ok_Fair_change_room {P : Program} {w : World} {K : PySem.W.Frag} {mg : Str → Option Value} {base : Heap} (T : Gd K mg base) : FnG P w K mg base d_x_Fair_change_room.at_ 2 ["self", "room", "askers", "count"] 4 k_Fair_change_room :=
  T.fun_ (d := d_x_Fair_change_room) 84 (by rfl) sc_Fair_change_room rfl (fun cdv A outer s H E hcd hr tk hx hp => have hN := sc_Fair_change_room.nd; (d_scons (d_sif (d_tdnotin (hu1 hr) dv (d_fld (T.cls 44) (T.noat 46) dv)) d_noSs d_snil) (d_scons (dpar2 hN (d_cons (w_call (ok_check_words T) (rm hr) (glk (by kernel_rfl)) (by exact T.glo 126) hx (d_cons dv d_nil)) (d_cons d_noE d_nil))) d_noSs)))
    (fun fd F => F.bindsN fun _ _ _ _ _ _ us hl => match us, hl with | [_, _, _, _], _ => rfl)
end K33
namespace K33
open PySem PySem.Spec PyProof.Rows L2
theorem sc_Fair_names : FnScope ["self"] ["self"] d_x_Fair_names.scope := ⟨rfl, rfl, rfl, by decide +kernel, rfl, by decide +kernel, by decide +kernel⟩
theorem ok_Fair_names {P : Program} {w : World} {K : PySem.W.Frag} {mg : Str → Option Value} {base : Heap} (T : Gd K mg base) : FnG P w K mg base d_x_Fair_names.at_ 1 ["self"] 1 k_Fair_names :=
  T.fun_ (d := d_x_Fair_names) 85 (by rfl) sc_Fair_names rfl (fun cdv A outer s H E hcd hr tk hx hp => have hN := sc_Fair_names.nd; (d_scons (d_sret (d_tup (d_cons (d_callTy call_tuple_of p_tuple (glk (by kernel_rfl)) (by exact T.free 0) (by kernel_rfl) (d_cons (d_callB (call_sortA rfl) p_sorted (glk (by kernel_rfl)) (by exact T.free 6) (by kernel_rfl) (d_cons (d_fld (T.cls 44) (T.noat 45) dv) d_nil)) d_nil)) (d_cons (d_callTy call_tuple_of p_tuple (glk (by kernel_rfl)) (by exact T.free 0) (by kernel_rfl) (d_cons (d_callB (call_sortA rfl) p_sorted (glk (by kernel_rfl)) (by exact T.free 6) (by kernel_rfl) (d_cons (d_fld (T.cls 44) (T.noat 46) dv) d_nil)) d_nil)) d_nil)))) d_snil))
    (fun fd F => F.bindsN fun _ _ _ _ _ _ us hl => match us, hl with | [_], _ => rfl)
theorem sc_Friends_init : FnScope ["self", "many", "links", "one", "other"] ["self", "many", "links"] d_x_Friends_init.scope := ⟨rfl, rfl, rfl, by decide +kernel, rfl, by decide +kernel, by decide +kernel⟩
theorem ok_Friends_init {P : Program} {w : World} {K : PySem.W.Frag} {mg : Str → Option Value} {base : Heap} (T : Gd K mg base) : FnG P w K mg base d_x_Friends_init.at_ 1 ["self", "many", "links"] 3 k_Friends_init :=
  T.fun_ (d := d_x_Friends_init) 86 (by rfl) sc_Friends_init rfl (fun cdv A outer s H E hcd hr tk hx hp => have hN := sc_Friends_init.nd; (d_scons (d_setF (T.cls 29) (T.noat 30) dv dv) (d_scons (d_setF (T.cls 29) (T.noat 32) dv (d_lc rfl hN (d_wr1 (glk (by kernel_rfl)) (by exact T.free 31) (d_cons dv d_nil)) (blkOk_by (own := [("one", 3)]) (by kernel_rfl)) (by decide) (fun s H C cl fp => (dgn hN)) (fun s H C cl fp => d_ts0) (fun s H C cl fp => (d_lst d_nil)))) (d_scons (d_sfor hp rfl (d_wl dv) (d_gtup rfl (d_gcons (dgn hN) (d_gcons (dgn hN) d_gnil))) (d_scons (d_sif (PW.pt (d_or (d_tcmp (op_eqD (hu64 hr)) p_eq dv dv) (d_or (d_not (d_tchain op_le p_cmp op_lt p_cmp d_int dv dv)) (d_or1 (d_not (d_tchain op_le p_cmp op_lt p_cmp d_int dv dv)))))) d_noSs d_snil) (d_scons (d_sif (d_tcmp op_ninAll p_in dv (d_ix (d_fld (T.cls 29) (T.noat 32) dv) dv)) (d_scons (d_sexpr (d_bm lstTy F.plainAttrs_list F.slot_list_append F.type_list_append mtAppend p_append (d_ix (d_fld (T.cls 29) (T.noat 32) dv) dv) (d_cons dv d_nil))) (d_scons (d_sexpr (d_bm lstTy F.plainAttrs_list F.slot_list_append F.type_list_append mtAppend p_append (d_ix (d_fld (T.cls 29) (T.noat 32) dv) dv) (d_cons dv d_nil))) d_snil)) d_snil) d_snil))) d_snil))))
    (fun fd F => F.bindsN fun _ _ _ _ _ _ us hl => match us, hl with | [_, _, _], _ => rfl)
theorem sc_Deed_do : FnScope ["self", "fair"] ["self", "fair"] d_x_Deed_do.scope := ⟨rfl, rfl, rfl, by decide +kernel, rfl, by decide +kernel, by decide +kernel⟩
theorem ok_Deed_do {P : Program} {w : World} {K : PySem.W.Frag} {mg : Str → Option Value} {base : Heap} (T : Gd K mg base) : FnG P w K mg base d_x_Deed_do.at_ 2 ["self", "fair"] 2 k_Deed_do :=
  T.fun_ (d := d_x_Deed_do) 87 (by rfl) sc_Deed_do rfl (fun cdv A outer s H E hcd hr tk hx hp => have hN := sc_Deed_do.nd; (d_scons (d_sif (d_tcmp (op_eqD (hu64 hr)) p_eq (d_fld (T.cls 54) (T.noat 55) dv) d_str) d_noSs d_snil) (d_scons (d_sif (d_tcmp (op_eqD (hu64 hr)) p_eq (d_fld (T.cls 54) (T.noat 55) dv) d_str) (d_scons (d_sret (w_meth (c := 12) dv (T.cls 44) (T.meth 133) (ok_Fair_leave T) (rm hr) hx (d_cons (d_fld (T.cls 54) (T.noat 56) dv) d_nil))) d_snil) d_snil) d_noSs)))
    (fun fd F => F.bindsN fun _ _ _ _ _ _ us hl => match us, hl with | [_, _], _ => rfl)
theorem sc_Book_init : FnScope ["self"] ["self"] d_x_Book_init.scope := ⟨rfl, rfl, rfl, by decide +kernel, rfl, by decide +kernel, by decide +kernel⟩
theorem ok_Book_init {P : Program} {w : World} {K : PySem.W.Frag} {mg : Str → Option Value} {base : Heap} (T : Gd K mg base) : FnG P w K mg base d_x_Book_init.at_ 3 ["self"] 1 k_Book_init :=
  T.fun_ (d := d_x_Book_init) 88 (by rfl) sc_Book_init rfl (fun cdv A outer s H E hcd hr tk hx hp => have hN := sc_Book_init.nd; (d_scons (d_setF (T.cls 134) (T.noat 135) dv (w_make0 (T.mkr 51) (ok_Fair_init T) (rm hr) (glk (by kernel_rfl)) (by exact T.glo 52) hx)) (d_scons (d_setF (T.cls 134) (T.noat 136) dv d_str) (d_scons (d_setF (T.cls 134) (T.noat 137) dv d_int) d_snil))))
    (fun fd F => F.bindsN fun _ _ _ _ _ _ us hl => match us, hl with | [_], _ => rfl)
theorem sc_Book_do : FnScope ["self", "line", "deed", "changed", "body"] ["self", "line"] d_x_Book_do.scope := ⟨rfl, rfl, rfl, by decide +kernel, rfl, by decide +kernel, by decide +kernel⟩
theorem ok_Book_do {P : Program} {w : World} {K : PySem.W.Frag} {mg : Str → Option Value} {base : Heap} (T : Gd K mg base) : FnG P w K mg base d_x_Book_do.at_ 7 ["self", "line"] 2 k_Book_do :=
  T.fun_ (d := d_x_Book_do) 89 (by rfl) sc_Book_do rfl (fun cdv A outer s H E hcd hr tk hx hp => have hN := sc_Book_do.nd; (d_scons (dset 2 hN (w_call (ok_read_deed T) (rm hr) (glk (by kernel_rfl)) (by exact T.glo 138) hx (d_cons dv d_nil))) (d_scons (dset 3 hN (w_meth (c := 14) dv (T.cls 54) (T.meth 139) (ok_Deed_do T) (rm hr) hx (d_cons (d_fld (T.cls 134) (T.noat 135) dv) d_nil))) d_noSs)))
    (fun fd F => F.bindsN fun _ _ _ _ _ _ us hl => match us, hl with | [_, _], _ => rfl)
theorem sc_Links_init : FnScope ["self", "rows", "many", "row", "one"] ["self", "rows", "many"] d_x_Links_init.scope := ⟨rfl, rfl, rfl, by decide +kernel, rfl, by decide +kernel, by decide +kernel⟩
theorem ok_Links_init {P : Program} {w : World} {K : PySem.W.Frag} {mg : Str → Option Value} {base : Heap} (T : Gd K mg base) : FnG P w K mg base d_x_Links_init.at_ 4 ["self", "rows", "many"] 3 k_Links_init :=
  T.fun_ (d := d_x_Links_init) 90 (by rfl) sc_Links_init rfl (fun cdv A outer s H E hcd hr tk hx hp => have hN := sc_Links_init.nd; (d_scons (d_setF (T.cls 62) (T.noat 63) dv (d_lc rfl hN (d_wl dv) (blkOk_by (own := [("row", 3)]) (by kernel_rfl)) (by decide) (fun s H C cl fp => (dgn hN)) (fun s H C cl fp => d_ts0) (fun s H C cl fp => (d_callTy call_tuple_of p_tuple (glk (by kernel_rfl)) (by exact T.free 0) (by kernel_rfl) (d_cons (d_callB (call_sortA rfl) p_sorted (glk (by kernel_rfl)) (by exact T.free 6) (by kernel_rfl) (d_cons (d_callTy (call_dictA rfl) p_dict (glk (by kernel_rfl)) (by exact T.free 1) (by kernel_rfl) (d_cons (d_lc rfl hN (d_wl dv) (blkOk_by (own := [("one", 4)]) (by kernel_rfl)) (by decide) (fun s H C cl fp => (dgn hN)) (fun s H C cl fp => d_ts0) (fun s H C cl fp => (d_tup (d_cons dv (d_cons d_int d_nil))))) d_nil)) d_nil)) d_nil))))) (d_scons (d_setF (T.cls 62) (T.noat 140) dv dv) (d_scons (d_sif (d_valB (d_gx2 (vs1 := [4]) (cn := .any) (glk (by kernel_rfl)) (by exact T.free 5) (T.gx (own := [("row", 3), ("one", 4)]) 20 0 hcd hN (rm hr)) (T.tm 20) (by decide) (by decide) (by decide) (d_wl (d_fld (T.cls 62) (T.noat 63) dv)) (by intro _; rfl) (fun s H cl C cv A1 fp pn hrg => (dgn hN)) (fun s H cl C cv A1 fp pn hrg => d_ts0) (fun s H cl C cv A1 fp pn hrg => (d_wt dv)) (fun s H cl C cv A1 fp pn hrg => (dgn hN)) (fun s H cl C cv A1 fp pn hrg => d_ts0) (fun s H cl C cv A1 fp pn hrg => (d_notV (d_chain op_le p_cmp op_lt p_cmp d_int dv dv))))) d_noSs d_snil) d_snil))))
    (fun fd F => F.bindsN fun _ _ _ _ _ _ us hl => match us, hl with | [_, _, _], _ => rfl)
theorem sc_Part_init : FnScope ["self", "top", "low", "by"] ["self", "top", "low"] d_x_Part_init.scope := ⟨rfl, rfl, rfl, by decide +kernel, rfl, by decide +kernel, by decide +kernel⟩
theorem ok_Part_init {P : Program} {w : World} {K : PySem.W.Frag} {mg : Str → Option Value} {base : Heap} (T : Gd K mg base) : FnG P w K mg base d_x_Part_init.at_ 1 ["self", "top", "low"] 3 k_Part_init :=
  T.fun_ (d := d_x_Part_init) 91 (by rfl) sc_Part_init rfl (fun cdv A outer s H E hcd hr tk hx hp => have hN := sc_Part_init.nd; (d_scons (d_sif (d_tcmp (op_eqD (hu64 hr)) p_eq dv d_int) (d_scons (w_raise (c := 5) rfl tk (T.exc 9) (glk (by kernel_rfl)) (by exact T.glo 10)) d_snil) d_snil) d_noSs))
    (fun fd F => F.bindsN fun _ _ _ _ _ _ us hl => match us, hl with | [_, _, _], _ => rfl)
theorem sc_Pipes_init : FnScope ["self", "many"] ["self", "many"] d_x_Pipes_init.scope := ⟨rfl, rfl, rfl, by decide +kernel, rfl, by decide +kernel, by decide +kernel⟩
theorem ok_Pipes_init {P : Program} {w : World} {K : PySem.W.Frag} {mg : Str → Option Value} {base : Heap} (T : Gd K mg base) : FnG P w K mg base d_x_Pipes_init.at_ 1 ["self", "many"] 2 k_Pipes_init :=
  T.fun_ (d := d_x_Pipes_init) 92 (by rfl) sc_Pipes_init rfl (fun cdv A outer s H E hcd hr tk hx hp => have hN := sc_Pipes_init.nd; (d_scons (d_setF (T.cls 141) (T.noat 142) dv dv) (d_scons (d_setF (T.cls 141) (T.noat 143) dv d_dnew) (d_scons (d_setF (T.cls 141) (T.noat 144) dv d_dnew) d_snil))))
    (fun fd F => F.bindsN fun _ _ _ _ _ _ us hl => match us, hl with | [_, _], _ => rfl)
theorem sc_Pipes_lay : FnScope ["self", "one", "other", "room"] ["self", "one", "other", "room"] d_x_Pipes_lay.scope := ⟨rfl, rfl, rfl, by decide +kernel, rfl, by decide +kernel, by decide +kernel⟩
theorem ok_Pipes_lay {P : Program} {w : World} {K : PySem.W.Frag} {mg : Str → Option Value} {base : Heap} (T : Gd K mg base) : FnG P w K mg base d_x_Pipes_lay.at_ 1 ["self", "one", "other", "room"] 4 k_Pipes_lay :=
  T.fun_ (d := d_x_Pipes_lay) 93 (by rfl) sc_Pipes_lay rfl (fun cdv A outer s H E hcd hr tk hx hp => have hN := sc_Pipes_lay.nd; (d_scons (d_sif (d_tcmp op_lt p_cmp dv d_int) (d_scons (w_raise (c := 5) rfl tk (T.exc 9) (glk (by kernel_rfl)) (by exact T.glo 10)) d_snil) d_snil) d_noSs))
    (fun fd F => F.bindsN fun _ _ _ _ _ _ us hl => match us, hl with | [_, _, _, _], _ => rfl)
theorem sc_Wants_init : FnScope ["self", "lists", "asker_bounds", "room_bounds", "row", "room", "low", "high"] ["self", "lists", "asker_bounds", "room_bounds"] d_x_Wants_init.scope := ⟨rfl, rfl, rfl, by decide +kernel, rfl, by decide +kernel, by decide +kernel⟩
theorem ok_Wants_init {P : Program} {w : World} {K : PySem.W.Frag} {mg : Str → Option Value} {base : Heap} (T : Gd K mg base) : FnG P w K mg base d_x_Wants_init.at_ 4 ["self", "lists", "asker_bounds", "room_bounds"] 4 k_Wants_init :=
  T.fun_ (d := d_x_Wants_init) 94 (by rfl) sc_Wants_init rfl (fun cdv A outer s H E hcd hr tk hx hp => have hN := sc_Wants_init.nd; (d_scons (d_setF (T.cls 65) (T.noat 66) dv (d_lc rfl hN (d_wl dv) (blkOk_by (own := [("row", 4)]) (by kernel_rfl)) (by decide) (fun s H C cl fp => (dgn hN)) (fun s H C cl fp => d_ts0) (fun s H C cl fp => (d_callTy call_tuple_of p_tuple (glk (by kernel_rfl)) (by exact T.free 0) (by kernel_rfl) (d_cons (d_callB (call_sortA rfl) p_sorted (glk (by kernel_rfl)) (by exact T.free 6) (by kernel_rfl) (d_cons (d_callTy (call_dictA rfl) p_dict (glk (by kernel_rfl)) (by exact T.free 1) (by kernel_rfl) (d_cons (d_lc rfl hN (d_wt dv) (blkOk_by (own := [("room", 5)]) (by kernel_rfl)) (by decide) (fun s H C cl fp => (dgn hN)) (fun s H C cl fp => d_ts0) (fun s H C cl fp => (d_tup (d_cons dv (d_cons d_int d_nil))))) d_nil)) d_nil)) d_nil))))) (d_scons (d_setF (T.cls 65) (T.noat 68) dv (d_callTy call_tuple_of p_tuple (glk (by kernel_rfl)) (by exact T.free 0) (by kernel_rfl) (d_cons dv d_nil))) (d_scons (d_setF (T.cls 65) (T.noat 67) dv (d_callTy call_tuple_of p_tuple (glk (by kernel_rfl)) (by exact T.free 0) (by kernel_rfl) (d_cons dv d_nil))) (d_scons (d_sif (PW.pt (d_or (d_tcmp (op_neD (hu64 hr)) p_ne (d_callB call_lenA p_len (glk (by kernel_rfl)) (by exact T.free 2) (by kernel_rfl) (d_cons (d_fld (T.cls 65) (T.noat 68) dv) d_nil)) (d_callB call_lenA p_len (glk (by kernel_rfl)) (by exact T.free 2) (by kernel_rfl) (d_cons (d_fld (T.cls 65) (T.noat 66) dv) d_nil))) (d_or1 (d_valB (d_gx1 (cn := .any) (glk (by kernel_rfl)) (by exact T.free 5) (T.gx (own := [("low", 6), ("high", 7)]) 21 0 hcd hN (rm hr)) (T.tm 21) (by decide) (d_wt (d_op op_addAll p_add (d_fld (T.cls 65) (T.noat 68) dv) (d_fld (T.cls 65) (T.noat 67) dv))) (by intro _; rfl) (fun s H cl C cv A1 fp pn hrg => (d_gtup rfl (d_gcons (dgn hN) (d_gcons (dgn hN) d_gnil)))) (fun s H cl C cv A1 fp pn hrg => d_ts0) (fun s H cl C cv A1 fp pn hrg => (d_orV (d_cmp op_lt p_cmp dv d_int) (d_oneV (d_cmp op_gt p_cmp dv dv))))))))) d_noSs d_snil) (d_scons (d_sif (d_valB (d_gx2 (vs1 := [5]) (cn := .any) (glk (by kernel_rfl)) (by exact T.free 5) (T.gx (own := [("row", 4), ("room", 5)]) 21 0 hcd hN (rm hr)) (T.tm 21) (by decide) (by decide) (by decide) (d_wl (d_fld (T.cls 65) (T.noat 66) dv)) (by intro _; rfl) (fun s H cl C cv A1 fp pn hrg => (dgn hN)) (fun s H cl C cv A1 fp pn hrg => d_ts0) (fun s H cl C cv A1 fp pn hrg => (d_wt dv)) (fun s H cl C cv A1 fp pn hrg => (dgn hN)) (fun s H cl C cv A1 fp pn hrg => d_ts0) (fun s H cl C cv A1 fp pn hrg => (d_notV (d_chain op_le p_cmp op_lt p_cmp d_int dv (d_callB call_lenA p_len (glk (by kernel_rfl)) (by exact T.free 2) (by kernel_rfl) (d_cons (d_fld (T.cls 65) (T.noat 67) dv) d_nil))))))) d_noSs d_snil) d_snil))))))
    (fun fd F => F.bindsN fun _ _ _ _ _ _ us hl => match us, hl with | [_, _, _, _], _ => rfl)
theorem sc_Keeper_init : FnScope ["self", "order", "seats", "keeps", "counts", "kind", "count"] ["self", "order", "seats", "keeps"] d_x_Keeper_init.scope := ⟨rfl, rfl, rfl, by decide +kernel, rfl, by decide +kernel, by decide +kernel⟩
theorem ok_Keeper_init {P : Program} {w : World} {K : PySem.W.Frag} {mg : Str → Option Value} {base : Heap} (T : Gd K mg base) : FnG P w K mg base d_x_Keeper_init.at_ 4 ["self", "order", "seats", "keeps"] 4 k_Keeper_init :=
  T.fun_ (d := d_x_Keeper_init) 95 (by rfl) sc_Keeper_init rfl (fun cdv A outer s H E hcd hr tk hx hp => have hN := sc_Keeper_init.nd; (d_scons (d_setF (T.cls 145) (T.noat 146) dv (w_make (T.mkr 80) (ok_Wish_init T) (rm hr) (glk (by kernel_rfl)) (by exact T.glo 81) hx (d_cons dv d_nil))) (d_scons (d_setF (T.cls 145) (T.noat 147) dv dv) (d_scons (d_setF (T.cls 145) (T.noat 148) dv (d_callTy call_tuple_of p_tuple (glk (by kernel_rfl)) (by exact T.free 0) (by kernel_rfl) (d_cons dv d_nil))) (d_scons (d_setLc (j := 4) rfl hN rfl rfl rfl (d_wt (d_fld (T.cls 145) (T.noat 148) dv)) (blkOk_by (own := [("kind", 5), ("count", 6)]) (by kernel_rfl)) (by decide) (fun s H C cl fp => (d_gtup rfl (d_gcons (dgn hN) (d_gcons (dgn hN) d_gnil)))) (fun s H C cl fp => d_ts0) (fun s H C cl fp => dv)) (d_scons (d_sif (PW.pt (d_or (d_tcmp op_lt p_cmp dv d_int) (d_or (d_valB (d_gx1 (cn := .any) (glk (by kernel_rfl)) (by exact T.free 5) (T.gx (own := [("count", 6)]) 22 0 hcd hN (rm hr)) (T.tm 22) (by decide) (d_wl dv) (by intro _; rfl) (fun s H cl C cv A1 fp pn hrg => (dgn hN)) (fun s H cl C cv A1 fp pn hrg => d_ts0) (fun s H cl C cv A1 fp pn hrg => (d_cmp op_lt p_cmp dv d_int)))) (d_or1 (d_tcmp op_gt p_cmp (d_callB (cr_sum rfl) p_sum (glk (by kernel_rfl)) (by exact T.free 69) (by kernel_rfl) (d_cons dv d_nil)) dv))))) (d_scons (w_raise (c := 2) rfl tk (T.exc 116) (glk (by kernel_rfl)) (by exact T.glo 117)) d_snil) d_snil) d_snil))))))
    (fun fd F => F.bindsN fun _ _ _ _ _ _ us hl => match us, hl with | [_, _, _, _], _ => rfl)
theorem sc_Deals_check : FnScope ["self", "wish", "place", "who", "one"] ["self", "wish", "place", "who"] d_x_Deals_check.scope := ⟨rfl, rfl, rfl, by decide +kernel, rfl, by decide +kernel, by decide +kernel⟩
theorem ok_Deals_check {P : Program} {w : World} {K : PySem.W.Frag} {mg : Str → Option Value} {base : Heap} (T : Gd K mg base) : FnG P w K mg base d_x_Deals_check.at_ 4 ["self", "wish", "place", "who"] 4 k_Deals_check :=
  T.fun_ (d := d_x_Deals_check) 96 (by rfl) sc_Deals_check rfl (fun cdv A outer s H E hcd hr tk hx hp => have hN := sc_Deals_check.nd; (d_scons (d_sif (d_tcmp (op_neD (hu64 hr)) p_ne (d_callB call_lenA p_len (glk (by kernel_rfl)) (by exact T.free 2) (by kernel_rfl) (d_cons (d_fld (T.cls 18) (T.noat 19) dv) d_nil)) (d_callB call_lenA p_len (glk (by kernel_rfl)) (by exact T.free 2) (by kernel_rfl) (d_cons (d_fld (T.cls 18) (T.noat 22) dv) d_nil))) (d_scons (w_raise (c := 1) rfl tk (T.exc 3) (glk (by kernel_rfl)) (by exact T.glo 4)) d_snil) d_snil) (d_scons (d_sif (d_valB (d_gx1 (cn := .any) (glk (by kernel_rfl)) (by exact T.free 5) (T.gx (own := [("one", 4)]) 23 0 hcd hN (rm hr)) (T.tm 23) (by decide) (d_wt (d_fld (T.cls 18) (T.noat 22) dv)) (by intro _; rfl) (fun s H cl C cv A1 fp pn hrg => (dgn hN)) (fun s H cl C cv A1 fp pn hrg => d_ts0) (fun s H cl C cv A1 fp pn hrg => (d_orV (d_notV (d_chain op_le p_cmp op_lt p_cmp d_int dv (d_callB call_lenA p_len (glk (by kernel_rfl)) (by exact T.free 2) (by kernel_rfl) (d_cons (d_fld (T.cls 149) (T.noat 150) dv) d_nil)))) (d_oneV (d_cmp (op_neD (hu64 hrg)) p_ne (d_ix (d_ix (d_fld (T.cls 149) (T.noat 150) dv) dv) dv) dv)))))) d_noSs d_snil) d_snil)))
    (fun fd F => F.bindsN fun _ _ _ _ _ _ us hl => match us, hl with | [_, _, _, _], _ => rfl)
end K33
namespace K33
open PySem PySem.Spec PyProof.Rows L2
theorem sc_Deals_init : FnScope ["self", "contracts", "lists", "orders", "seats", "asker", "wish", "room", "one", "order"] ["self", "contracts", "lists", "orders", "seats"] d_x_Deals_init.scope := ⟨rfl, rfl, rfl, by decide +kernel, rfl, by decide +kernel, by decide +kernel⟩
theorem ok_Deals_init {P : Program} {w : World} {K : PySem.W.Frag} {mg : Str → Option Value} {base : Heap} (T : Gd K mg base) : FnG P w K mg base d_x_Deals_init.at_ 5 ["self", "contracts", "lists", "orders", "seats"] 5 k_Deals_init :=
  T.fun_ (d := d_x_Deals_init) 97 (by rfl) sc_Deals_init rfl (fun cdv A outer s H E hcd hr tk hx hp => have hN := sc_Deals_init.nd; (d_scons (d_setF (T.cls 149) (T.noat 150) dv (d_lc rfl hN (d_wl dv) (blkOk_by (own := [("one", 8)]) (by kernel_rfl)) (by decide) (fun s H C cl fp => (dgn hN)) (fun s H C cl fp => d_ts0) (fun s H C cl fp => (d_callTy call_tuple_of p_tuple (glk (by kernel_rfl)) (by exact T.free 0) (by kernel_rfl) (d_cons dv d_nil))))) (d_scons (d_setF (T.cls 149) (T.noat 151) dv (d_lc rfl hN (d_wl dv) (blkOk_by (own := [("order", 9)]) (by kernel_rfl)) (by decide) (fun s H C cl fp => (dgn hN)) (fun s H C cl fp => d_ts0) (fun s H C cl fp => (w_make (T.mkr 80) (ok_Wish_init T) (rm hr) (glk (by kernel_rfl)) (by exact T.glo 81) passNo (d_cons dv d_nil))))) (d_scons (d_setF (T.cls 149) (T.noat 152) dv (d_lc rfl hN (d_wl dv) (blkOk_by (own := [("order", 9)]) (by kernel_rfl)) (by decide) (fun s H C cl fp => (dgn hN)) (fun s H C cl fp => d_ts0) (fun s H C cl fp => (w_make (T.mkr 80) (ok_Wish_init T) (rm hr) (glk (by kernel_rfl)) (by exact T.glo 81) passNo (d_cons dv d_nil))))) (d_scons (d_setF (T.cls 149) (T.noat 153) dv (d_callTy call_tuple_of p_tuple (glk (by kernel_rfl)) (by exact T.free 0) (by kernel_rfl) (d_cons dv d_nil))) (d_scons (d_sfor hp rfl (d_wel (glk (by kernel_rfl)) (by exact T.free 8) (d_cons (d_fld (T.cls 149) (T.noat 151) dv) d_nil)) (d_gtup rfl (d_gcons (dgn hN) (d_gcons (dgn hN) d_gnil))) (d_scons (d_sexpr (w_meth (c := 23) dv (T.cls 149) (T.meth 154) (ok_Deals_check T) (rm hr) hx (d_cons dv (d_cons d_int (d_cons dv d_nil))))) d_snil)) (d_scons (d_sfor hp rfl (d_wel (glk (by kernel_rfl)) (by exact T.free 8) (d_cons (d_fld (T.cls 149) (T.noat 152) dv) d_nil)) (d_gtup rfl (d_gcons (dgn hN) (d_gcons (dgn hN) d_gnil))) (d_scons (d_sexpr (w_meth (c := 23) dv (T.cls 149) (T.meth 154) (ok_Deals_check T) (rm hr) hx (d_cons dv (d_cons d_int (d_cons dv d_nil))))) d_snil)) d_snil)))))))
    (fun fd F => F.bindsN fun _ _ _ _ _ _ us hl => match us, hl with | [_, _, _, _, _], _ => rfl)
theorem sc_Tied_init : FnScope ["self", "lists", "orders", "order", "groups"] ["self", "lists", "orders"] d_x_Tied_init.scope := ⟨rfl, rfl, rfl, by decide +kernel, rfl, by decide +kernel, by decide +kernel⟩
theorem ok_Tied_init {P : Program} {w : World} {K : PySem.W.Frag} {mg : Str → Option Value} {base : Heap} (T : Gd K mg base) : FnG P w K mg base d_x_Tied_init.at_ 6 ["self", "lists", "orders"] 3 k_Tied_init :=
  T.fun_ (d := d_x_Tied_init) 98 (by rfl) sc_Tied_init rfl (fun cdv A outer s H E hcd hr tk hx hp => have hN := sc_Tied_init.nd; (d_scons (d_setF (T.cls 96) (T.noat 97) dv (d_lc rfl hN (d_wl dv) (blkOk_by (own := [("order", 3)]) (by kernel_rfl)) (by decide) (fun s H C cl fp => (dgn hN)) (fun s H C cl fp => d_ts0) (fun s H C cl fp => (w_call (ok_check_list T) (rm hr) (glk (by kernel_rfl)) (by exact T.glo 7) passNo (d_cons dv (d_cons (d_callB call_lenA p_len (glk (by kernel_rfl)) (by exact T.free 2) (by kernel_rfl) (d_cons dv d_nil)) d_nil)))))) (d_scons (d_setF (T.cls 96) (T.noat 101) dv (d_lc rfl hN (d_wl dv) (blkOk_by (own := [("groups", 4)]) (by kernel_rfl)) (by decide) (fun s H C cl fp => (dgn hN)) (fun s H C cl fp => d_ts0) (fun s H C cl fp => (w_call (ok_check_groups T) (rm hr) (glk (by kernel_rfl)) (by exact T.glo 155) passNo (d_cons dv (d_cons (d_callB call_lenA p_len (glk (by kernel_rfl)) (by exact T.free 2) (by kernel_rfl) (d_cons dv d_nil)) d_nil)))))) (d_scons (d_setF (T.cls 96) (T.noat 98) dv (d_lc rfl hN (d_wl (d_fld (T.cls 96) (T.noat 101) dv)) (blkOk_by (own := [("groups", 4)]) (by kernel_rfl)) (by decide) (fun s H C cl fp => (dgn hN)) (fun s H C cl fp => d_ts0) (fun s H C cl fp => (w_call (ok_group_ranks T) (rm hr) (glk (by kernel_rfl)) (by exact T.glo 156) passNo (d_cons dv d_nil))))) d_snil))))
    (fun fd F => F.bindsN fun _ _ _ _ _ _ us hl => match us, hl with | [_, _, _], _ => rfl)
end K33
namespace K33
open PySem PySem.Spec PyProof.Rows L2 CwR
/-! ## a def that is entered with a token out -/
structure FnOkT (P : Program) (w : World) (K : PySem.W.Frag) (mg : Str → Option Value) (base : Heap) (CX : CXT) (k : Nat) (f : Addr) (fd : FuncData) (ps : List Str) (sp : Sp) : Prop where
  run : ∀ (A : Around) (outer : List Env) (s : Shared) (H : Hp) (args : Args) (us : List Value) (vs : List V) (Q : VK) (E : XK), 1 ≤ s.toks → Room k A → Env0 P w K mg base A outer s H → BindsTo s fd args (ps.zip us) → Vals vs us → sp vs H Q E →
    codeAny (model P w) A (.call (.ref f) args) (CR CX outer P w H s Q E) s
theorem fnT_of {CX : CXT} {P : Program} {w : World} {K : PySem.W.Frag} {mg : Str → Option Value} {base : Heap} {k : Nat} {f : Addr} {name qual : Str} {params : Arguments} {body : List Stmt} {scope : Scope} {dV kV doc pm cdv ct oc : Value} {an od : Option Addr}
    {osl : Array (Option Value)} {N ps : List Str} {sp : Sp} (lk : K.lookup f = some ⟨oc, od, .func (PySem.W.fnOf name qual params body scope dV kV doc pm an cdv ct), osl⟩) (hcd : PySem.W.codeIn K cdv qual = true) (S : FnScope N ps scope)
    (len : ∀ vs H Q E, sp vs H Q E → vs.length = ps.length)
    (hbody : ∀ (A : Around) (outer : List Env) (s : Shared) (H : Hp) (vs : List V) (Q : VK) (E : XK), Room k (A.deeper (envOfC qual scope s.heap.objs.size f cdv)) → sp vs H Q E →
      ∃ t, PSsT (cxOf CX P w K mg base N qual scope f cdv A outer s H E) body t ∧ t { nx := fun _ H' => Q .non H', rt := Q } (L2.start N vs) H) :
    FnOkT P w K mg base CX (k + 1) f (PySem.W.fnOf name qual params body scope dV kV doc pm an cdv ct) ps sp := by
  constructor
  intro A outer s H args us vs Q E h0 hr e0 hb r hsp
  have hlen := len _ _ _ _ hsp
  have inK : K.In s.heap := e0.mod.kin.keeps fun b o e => (e0.bs b o e).1
  have noL : s.heap.NoLimit := e0.mod.nolimit.keeps fun b o e => (e0.bs b o e).1
  have kinds : ∀ y ∈ ps.zip us, scope.names.lookup y.1 = some .local ∨ (scope.names.lookup y.1 = some .cell ∧ ((cellsFrom (s.heap.objs.size + 1) scope.names []).lookup y.1).isSome = true) := by
    intro y hy
    obtain ⟨n, v⟩ := y
    exact (S.par n (List.of_mem_zip hy).1).imp id fun q => ⟨q, PySem.W.cellsFrom_some _ _ _ (.inl q)⟩
  refine codeAny_call_function hr.depth (inK _ _ lk) rfl S.co S.gen rfl (PySem.W.codeRec_of inK hcd) (hb _ _ _ _ ?_)
  refine PySem.wpAny_with_toks h0 (wpAny_newFunctionEnv_cells S.kind kinds fun env he s1 x => ?_)
  intro h1
  subst he
  refine ⟨noL.keeps x.toInCall.keep, codeAny_func ?_⟩
  obtain ⟨t, ht, hq⟩ := hbody A outer s H vs Q E (hr.deeper _) hsp
  have I : Inv (cxOf CX P w K mg base N qual scope f cdv A outer s H E) [] (L2.start N vs) H s1 := inv_start S hr.hd e0 hlen r x
  refine wpAny_mono (ht [] s1 (L2.start N vs) H _ h1 I hq) (fun fl s' hs => ?_) fun e s' hs => hs
  match fl, hs with
  | .ret u, ⟨v, σ', H', J, rv, q⟩ => exact ⟨v, H', J.os, J.bare, J.base, J.hok, rv, q⟩
  | .next, ⟨σ', H', J, q⟩ => exact ⟨V.non, H', J.os, J.bare, J.base, J.hok, rfl, q⟩
  | .brk, ⟨_, _, _, q⟩ => exact False.elim q
  | .cont, ⟨_, _, _, q⟩ => exact False.elim q
end K33
namespace K33
open PySem PySem.Spec PyProof.Rows L2 CwR
section
variable {X : Cx} {g : Gr} {E : XK} {σ : L2.St} {H : Hp} {e o : Expr} {es : List Expr} {ma mo : ET} {ml : LT} {sa sb : ST} {st : Stmt} {rest : List Stmt} {apos cpos pos : Pos}
theorem tpet {t t' : TE} (h : PET X e t) (w : ∀ σ H Q, t' σ H Q → t σ H Q) : PET X e t' := fun pins s σ H Q h0 I q => h pins s σ H Q h0 I (w σ H Q q)
theorem tpst {t t' : TS} (h : PST X st t) (w : ∀ D σ H, t' D σ H → t D σ H) : PST X st t' := fun pins s σ H D h0 I q => h pins s σ H D h0 I (w D σ H q)
theorem tpsst {t t' : TS} (h : PSsT X rest t) (w : ∀ D σ H, t' D σ H → t D σ H) : PSsT X rest t' := fun pins s σ H D h0 I q => h pins s σ H D h0 I (w D σ H q)
theorem tpit {tg : Expr} {t t' : TI} (h : PIT X tg e t) (w : ∀ σ H R, t' σ H R → t σ H R) : PIT X tg e t' := fun pins s σ H R h0 I q => h pins s σ H R h0 I (w σ H R q)
theorem seq_of {D : Ends} (h : rS g E (mSeq sa sb) D σ H) : tSeq (rS g E sa) (rS g E sb) D σ H := by
  obtain ⟨ρ, S, A, a, h⟩ := h
  exact bindS a h (fun ρ1 S1 A1 σ1 H1 e1 a1 h1 => at_rS a1 h1) fun ρ1 w A1 x H1 e1 m1 r1 h1 => holds.ok (a := Fl.rt w) h1 m1 x r1
theorem t_cons (h1 : PST X st (rS g E sa)) (h2 : PSsT X rest (rS g E sb)) : PSsT X (st :: rest) (rS g E (mSeq sa sb)) := tpsst (psst_cons h1 h2) fun _ _ _ h => seq_of h
theorem t_repl {y z : Str} {j k : Nat} {c0 c1 : Pos} (ho : PET X o (rE g E mo)) (hyz : (y == z) = false := by decide)
    (hst : starEach [.Constant (.str y) j c0, .Constant (.str z) k c1] X.env = [(false, eval (.Constant (.str y) j c0) X.env), (false, eval (.Constant (.str z) k c1) X.env)] := by rfl)
    (hbase : attributeBase o "replace" X.env (eval o X.env) = eval o X.env := by rfl) (hline : (apos.endLine == pos.line) = true := by rfl) :
    PET X (.Call (.Attribute o "replace" apos) [.Constant (.str y) j c0, .Constant (.str z) k c1] [] pos) (rE g E (mMeth (fun _ => isStr) opRepl mo (mCons (mC (.str y)) (mCons (mC (.str z)) mNil)))) :=
  tpet (pet_replT ho hyz hst hbase hline) fun σ H Q ⟨ρ, S, A, a, h⟩ => bindE a h fun ρ1 w A1 x H1 e1 a1 r1 h1 => by
    split at h1
    · cases w with
      | str s =>
        obtain rfl := r1
        have h1 : holds g ρ1 E (opRepl (.str s) [.str y, .str z] A1) (KE Q) := h1
        unfold opRepl at h1
        dsimp only at h1
        split at h1
        · rename_i hc
          rw [Bool.and_eq_true] at hc
          exact ⟨s, rfl, of_decide_eq_true hc.1, holds.ok (a := W.str _) h1 a1.m _ rfl⟩
        · exact h1.elim
      | _ => rename_i hh; cases hh
    · exact h1.elim
theorem t_bm {T id : String} {name : Str} {r : V → List V → Hp → VK → Prop} {f : OpM} {ty : Hs → W → Bool} (hty : ∀ ρ A H w v, M g ρ A H → RV ρ w v → ty A w = true → tyV X.K T v H) (pa : PlainAttrs T) (slot : Slot T name id) (ht : typeOf (.builtin id) = pure (.type "method_descriptor")) (hm : MtR X id r) (hp : PrimM g E r f) (ho : PET X o (rE g E mo)) (ha : PA X (e :: es) (rL g E ml))
    (hbase : attributeBase o name X.env (eval o X.env) = eval o X.env := by rfl)
    (hfew : ((backTo cpos (starEach (e :: es) X.env)).all (fun x => !x.1) && (backToKw cpos (keywordEach [] X.env)).all (fun x => x.1.isSome)
      && decide ((e :: es).length + ([] : List Keyword).length + (if ([] : List Keyword).isEmpty then 0 else 1) < 30)) = true := by rfl)
    (hline : (apos.endLine == cpos.line) = true := by rfl) (hs : starEach (e :: es) X.env = (false, eval e X.env) :: starEach es X.env := by rfl) (hplain : (backTo cpos (starEach es X.env)).any (·.1) = false := by rfl) :
    PET X (.Call (.Attribute o name apos) (e :: es) [] cpos) (rE g E (mMeth ty f mo ml)) := by
  intro pins s σ H Q h0 I h
  have h := bm_of hty hp h
  refine wpAny_Call_method_late hbase hfew hline rfl (thn (ho pins s σ H _ h0 I h) fun v s1 ⟨x, H1, I1, r1, ty, q1⟩ => ?_)
  obtain ⟨h1, h2⟩ := tyV_is I1 r1 ty
  refine ⟨T, id, pa, slot, ht, h1, h2, ?_⟩
  have hA := ha.run cpos pins s1 σ H1 _ I1 q1
  rw [hs] at hA ⊢
  refine Calls.callWith_builtin (by show (false || (backTo cpos (starEach es X.env)).any (·.1)) = false; rw [hplain] <;> rfl) (Calls.evalArgs_plain ?_)
  exact thn hA fun us s2 ⟨vs, H2, I2, r2, q2⟩ => hm pins s2 σ H2 x vs v us Q I2 r1 r2 q2
theorem t_for {fuel : Nat} {tg : Expr} {p : List Stmt} {t : Tg} (hp : PassesOwn (model X.prog X.w) X.A X.env X.xe) (hc : X.calm = true) (hi : PET X e (rE g E ma)) (hg : PG X tg (gT X.K t)) (hb : PSs X p (rS g E sa))
    (hs : ∀ x, foldedSetIterable e X.env x = pure x := by intro _; rfl) : PST X (.For tg e p [] pos) (rS g E (mFor fuel (mWL ma) t sa)) :=
  tpst (pst_for hp hc (tpit (pit_list hi) fun _ _ _ h => wl_of h) hg hb hs) fun _ _ _ h => for_of h
end
end K33
namespace K33
open PySem PySem.Spec PyProof.Rows L2 CwR
structure FnGT (P : Program) (w : World) (K : PySem.W.Frag) (mg : Str → Option Value) (base : Heap) (p : Str × Option Str) (k : Nat) (ps : List Str) (n : Nat) (fn : FnT) : Prop where
  ex : ∃ fd, FnOkT P w K mg base (L2.CX P w) k (He.fAd K p) fd ps (spOf (G K) n fn) ∧ Binds K fd ps []
  kp : PySem.W.keepIn K (.ref (He.fAd K p)) = true
theorem Gd.funT {P : Program} {w : World} {K : PySem.W.Frag} {mg : Str → Option Value} {base : Heap} (T : Gd K mg base) {d : He.DefD} (i : Nat) (hd : fn[i]? = some d) {N ps : List Str} {k n : Nat} {b : ST} {fnc : FnT} (S : FnScope N ps d.scope) (hf : fnc = fun ws A => fin (b (startW N.length ws) A))
    (hb : ∀ (cdv : Value) (A : Around) (outer : List Env) (s : Shared) (H : Hp) (E : XK), cdv = .ref (He.cT K d.at_).1 → Room k (cxOf (L2.CX P w) P w K mg base N d.qual d.scope (He.fAd K d.at_) cdv A outer s H E).A →
      Takes (cxOf (L2.CX P w) P w K mg base N d.qual d.scope (He.fAd K d.at_) cdv A outer s H E) (fun cls d _ H => E cls d H) → Passes (L2.CX P w) (cxOf (L2.CX P w) P w K mg base N d.qual d.scope (He.fAd K d.at_) cdv A outer s H E) E →
      PassesOwn (model P w) (cxOf (L2.CX P w) P w K mg base N d.qual d.scope (He.fAd K d.at_) cdv A outer s H E).A (cxOf (L2.CX P w) P w K mg base N d.qual d.scope (He.fAd K d.at_) cdv A outer s H E).env (cxOf (L2.CX P w) P w K mg base N d.qual d.scope (He.fAd K d.at_) cdv A outer s H E).xe →
      PSsT (cxOf (L2.CX P w) P w K mg base N d.qual d.scope (He.fAd K d.at_) cdv A outer s H E) d.body (rS (G K) E b))
    (hbind : ∀ fd, FunD K d.name d.qual d.params d.body d.scope (d.dvs K) (d.kws K) (He.fAd K d.at_) fd → Binds K fd ps []) (hn : n = ps.length := by rfl) : FnGT P w K mg base d.at_ (k + 1) ps n fnc := by
  obtain ⟨fd, F⟩ := T.says.def_ i hd
  have hB := hbind fd F
  obtain ⟨oc, od, dV, kV, doc, pm, an, cdv, ct, osl, rfl, lk, hcd, _, _⟩ := F.ex
  obtain ⟨c, rfl⟩ := He.codeIn_ref hcd
  have ec : c = (He.cT K d.at_).1 := (He.codeOf_eq lk rfl).symm
  refine ⟨⟨PySem.W.fnOf d.name d.qual d.params d.body d.scope dV kV doc pm an (.ref c) ct, ?_, hB⟩, F.kp⟩
  refine fnT_of lk hcd S (fun vs H Q E h => h.1.trans hn) fun A outer s H vs Q E hr hsp => ?_
  refine ⟨_, hb (.ref c) A outer s H E (by rw [ec]) hr (takes_of rfl rfl rfl rfl) (passes_call (takes_of rfl rfl rfl rfl) fun _ _ _ _ h => h) (passes_of rfl), ?_⟩
  obtain ⟨hl, ρ, ws, A0, rws, m, h⟩ := hsp
  subst hf
  have sr : SR ρ (startW N.length ws) (L2.start N vs) := by
    unfold startW L2.start
    rw [Paired.len2 rws]
    exact Paired.app2 (some_rv rws) (rep_none _)
  exact ⟨ρ, _, A0, ⟨sr, m⟩, fin_of2 h⟩
section
variable {X : Cx} {E : XK} {k : Nat} {ps : List Str} {fn : FnT} {x y : Str} {p p1 pos : Pos} {j : Nat}
theorem w_callT (F : FnGT X.prog X.w X.K X.mg X.base (x, none) k ps 1 fn) (hr : Room k X.A) (hg : Gl X x) (hm : X.mg x = some (.ref (He.ga X.K x))) (hx : Passes (L2.CX X.prog X.w) X E) (hl : ps.length = 1 := by rfl) (hdb : (x == ("__debug__" : Str)) = false := by decide) :
    PE X (.Call (.Name x p) [.Constant (.str y) j p1] [] pos) (rE (G X.K) E (mCallF 1 fn (mCons (mC (.str y)) mNil))) := by
  obtain ⟨fd, F1, hb⟩ := F.ex
  refine ⟨fun pins s σ H Q I h => ?_⟩
  obtain ⟨ρ, S, A, a, h⟩ := h
  refine wpAny_Call_Name_kw (ld_glob I hg hm ?_ hdb)
  refine PySem.W.callWith_K (h₀ := X.base) I.ok.mod.kin F.kp ?_ (by rfl) (by rfl)
  have I1 : Inv X pins σ H { s with toks := s.toks + 1 } := I.tok _
  show wpAny _ _ (spliced ((false, eval (.Constant (.str y) j p1) X.env) :: backTo pos (starEach [] X.env))) _ _ s
  refine Calls.spliced_cons (Calls.Constant_str (pos := p1) (k := j) (Calls.spliced_nil ⟨I1.kIn, ?_⟩))
  have hsp : spOf (G X.K) 1 fn [V.str y] H Q E := ⟨rfl, ρ, [W.str y], A, .cons rfl .nil, a.m, h⟩
  have rc := F1.run X.A X.stack { s with toks := s.toks + 1 } H ⟨[.str y s.toks], []⟩ [.str y s.toks] [V.str y] Q E (Nat.succ_le_succ (Nat.zero_le _)) hr I1.env0 (by
    have z := hb { s with toks := s.toks + 1 } [.str y s.toks] I1.kIn (by rw [List.append_nil]; exact hl.symm)
    rw [List.append_nil] at z
    exact z) (.cons ⟨_, rfl⟩ .nil) hsp
  refine wpAny_call (codeAny_mono rc fun r s' hq => ?_)
  cases r with
  | error e => exact hx pins σ H { s with toks := s.toks + 1 } e s' I1 hq
  | ok fl =>
    cases fl with
    | ret u => exact I1.after hq
    | next => exact False.elim hq
    | brk => exact False.elim hq
    | cont => exact False.elim hq
end
end K33
namespace K33
open PySem PySem.Spec PyProof.Rows L2 CwR
theorem sc_read_groups : FnScope ["text", "word", "found", "inside"] ["text"] d_x_read_groups.scope := ⟨rfl, rfl, rfl, by decide +kernel, rfl, by decide +kernel, by decide +kernel⟩
theorem ok_read_groups {P : Program} {w : World} {K : PySem.W.Frag} {mg : Str → Option Value} {base : Heap} (T : Gd K mg base) : FnGT P w K mg base d_x_read_groups.at_ 1 ["text"] 1 k_read_groups :=
  T.funT (d := d_x_read_groups) 26 (by rfl) sc_read_groups rfl (fun cdv A outer s H E hcd hr tk hx hp => have hN := sc_read_groups.nd; (t_cons (PST.of (dpar2 hN (d_cons (d_lst d_nil) (d_cons d_non d_nil)))) (t_cons (t_for hp rfl (t_bm strTy F.plainAttrs_str F.slot_str_split F.type_str_split mt_split p_split (t_repl (t_repl (PET.of dv))) (d_cons d_str d_nil)) (dgn hN) (d_scons (d_sif (d_tcmp (op_eqD (hu64 hr)) p_eq dv d_str) (d_scons (d_sif (d_tcmp op_notN p_notN dv d_non) d_noSs d_snil) (d_scons (dset 3 hN (d_lst d_nil)) d_snil)) (d_scons (d_sif (d_tcmp (op_eqD (hu64 hr)) p_eq dv d_str) d_noSs (d_scons (d_sif (d_tcmp (op_neD (hu64 hr)) p_ne dv d_str) d_noSs d_snil) d_snil)) d_snil)) d_snil)) (PSsT.of (d_scons (d_sif (d_tcmp op_notN p_notN dv d_non) (d_scons (w_raise (c := 6) rfl tk (T.exc 42) (glk (by kernel_rfl)) (by exact T.glo 43)) d_snil) d_snil) d_noSs)))))
    (fun fd F => F.bindsN fun _ _ _ _ _ _ us hl => match us, hl with | [_], _ => rfl)
end K33
namespace K33
open PySem PySem.Spec PyProof.Rows L2
section
variable {X : Cx} {E : XK} {g : Gr}
/-! ## the dice's operations: ints that are variables -/
def opAbs : OpL := fun ws A => match ws with
  | [.int i] => .ok (.int (if i < 0 then -i else i)) A
  | _ => .bad
theorem p_abs : PrimL g E (fun xs H Q => ∃ i, xs = [.int i] ∧ Q (.int (if i < 0 then -i else i)) H) opAbs := by
  intro ρ A H ws vs Q m rs h
  unfold opAbs at h
  split at h
  · obtain ⟨v, rfl, r⟩ := RVs.one rs
    obtain rfl := r
    exact ⟨_, rfl, holds.ok (a := W.int _) h m _ rfl⟩
  · exact h.elim
def opInt1 : OpL := fun ws A => match ws with
  | [.int i] => .ok (.int i) A
  | [.bl k] => .ok (.int (if k then 1 else 0)) A
  | _ => .bad
theorem p_int1 : PrimL g E (fun xs H Q => (∃ i, xs = [.int i] ∧ Q (.int i) H) ∨ ∃ k, xs = [.bl k] ∧ Q (.int (if k then 1 else 0)) H) opInt1 := by
  intro ρ A H ws vs Q m rs h
  unfold opInt1 at h
  split at h
  · obtain ⟨v, rfl, r⟩ := RVs.one rs
    obtain rfl := r
    exact .inl ⟨_, rfl, holds.ok (a := W.int _) h m _ rfl⟩
  · obtain ⟨v, rfl, r⟩ := RVs.one rs
    obtain rfl := r
    exact .inr ⟨_, rfl, holds.ok (a := W.int _) h m _ rfl⟩
  · exact h.elim
def opFDiv : Op2 := opIntC (fun _ j => decide (0 < j) && decide (j < 1073741824)) fun i j => i / j
theorem p_fdiv : Prim g E (L2.rI CDiv fun i j => .int (i / j)) opFDiv := p_intC fun i j h => by
  rw [Bool.and_eq_true] at h
  exact ⟨of_decide_eq_true h.1, of_decide_eq_true h.2⟩
def opPow : Op2 := opIntC (fun i j => decide (0 ≤ j) && (decide (j ≤ 1000000) && decide (i.natAbs < 2 ^ 64))) fun i j => i ^ j.toNat
theorem p_pow : Prim g E (L2.rI CPow fun i j => .int (i ^ j.toNat)) opPow := p_intC fun i j h => by
  rw [Bool.and_eq_true, Bool.and_eq_true] at h
  exact ⟨of_decide_eq_true h.1, of_decide_eq_true h.2.1, of_decide_eq_true h.2.2⟩
def opMulS : Op2 := opIntC (fun _ j => decide (-(2 ^ 64) < j) && decide (j < 2 ^ 64)) fun i j => i * j
theorem p_mulS : Prim g E (L2.rI CMul fun i j => .int (i * j)) opMulS := p_intC fun i j h => by
  rw [Bool.and_eq_true] at h
  exact .inr ⟨of_decide_eq_true h.1, of_decide_eq_true h.2⟩
end
end K33
namespace K33
open PySem PySem.Spec PyProof.Rows L2
def k_law_dice : FnT := fun ws A => fin ((mSeq (mIfS (mIsB (mChain (opCmp fun i j => decide (i < j)) (opCmp fun i j => decide (i < j)) (mBin (opInt fun i j => i - j) (mC (.int 0)) (mC (.int 10))) (mVar 0) (mC (.int 10)))) (mSeq (mRet (mLst (mCons (mCall opAbs (mCons (mVar 0) mNil)) (mCons (mC (.int 0)) (mCons (mC (.int 2)) mNil))))) mNext) mNext) (mSeq (mRet (mLst (mCons (mVar 0) (mCons (mBin opAdd (mC (.int 1)) (mBin (opIntC (fun _ j => decide (0 < j)) fun i j => i % j) (mCall opInt1 (mCons (mVar 0) mNil)) (mC (.int 1009)))) (mCons (mCall opInt1 (mCons (mBin (opCmp fun i j => decide (j ≤ i)) (mVar 0) (mBin opPow (mC (.int 10)) (mC (.int 18)))) mNil)) mNil))))) mNext)) (startW 1 ws) A)
def k_law_roll : FnT := fun ws A => fin ((mSeq (mIfS (mOr (mIsB (mBin (opEq false) (mBin opIx (mVar 0) (mC (.int 2))) (mC (.int 2)))) (mAnd (mIsB (mBin (opEq false) (mBin opIx (mVar 0) (mC (.int 2))) (mC (.int 1)))) (mIsB (mBin (opCmp fun i j => decide (j < i)) (mBin opIx (mVar 0) (mC (.int 0))) (mC (.int 0)))))) (mSeq (mAsg (mBin (opIntC (fun _ j => decide (0 < j)) fun i j => i % j) (mCall opInt1 (mCons (mBin opIx (mVar 0) (mC (.int 0))) mNil)) (mVar 1)) (.nm 2)) (mSeq (mPutL (mBin opFDiv (mBin opIx (mVar 0) (mC (.int 0))) (mVar 1)) (mVar 0) (mC (.int 0))) (mSeq (mRet (mVar 2)) mNext))) mNext) (mSeq (mPutL (mC (.int 0)) (mVar 0) (mC (.int 2))) (mSeq (mPutL (mBin (opIntC (fun _ j => decide (0 < j)) fun i j => i % j) (mCall opInt1 (mCons (mBin opAdd (mBin opAdd (mBin opMulS (mBin opIx (mVar 0) (mC (.int 0))) (mC (.int 48271))) (mBin opMulS (mBin opIx (mVar 0) (mC (.int 1))) (mC (.int 69621)))) (mC (.int 11))) mNil)) (mC (.int 2147483647))) (mVar 0) (mC (.int 0))) (mSeq (mPutL (mBin opAdd (mBin opIx (mVar 0) (mC (.int 1))) (mC (.int 1))) (mVar 0) (mC (.int 1))) (mSeq (mRet (mBin (opIntC (fun _ j => decide (0 < j)) fun i j => i % j) (mCall opInt1 (mCons (mBin opAdd (mBin opFDiv (mBin opIx (mVar 0) (mC (.int 0))) (mC (.int 7))) (mBin opIx (mVar 0) (mC (.int 0)))) mNil)) (mVar 1))) mNext))))) (startW 3 ws) A)
def k_law_rounds : FnT := fun ws A => fin ((mSeq (mAsg (mSl (mVar 0) mNoPart (mPart (mVar 1))) (.nm 2)) (mSeq (mIfS (mIsB (mBin (opEq false) (mVar 2) (mLst mNil))) (mSeq (mAsg (mLst (mCons (mC (.int 0)) mNil)) (.nm 2)) mNext) mNext) (mSeq (mRet (mLc 24 (mWL (mVar 2)) (.nm 3) [3] mYes (mCallF 1 k_law_dice (mCons (mVar 3) mNil)))) mNext))) (startW 4 ws) A)

theorem eq_int {A : Hs} {i j : Int} {neg : Bool} : opEq neg (.int i) (.int j) A = .ok (.bl (neg ^^ decide (i = j))) A := by
  have z : ∀ n : Int, SeqAt.shaped (.int n) = true := fun n => by rfl
  have e : PyData.eqv (.int i) (.int j) = decide (i = j) := by rfl
  unfold opEq deep
  simp only [z, e, Bool.and_self, if_true]
theorem ix_lst {A : Hs} {k : Nat} {xs : List W} {i : Int} {w : W} (h : A[k]? = some (.lst xs)) (e : atI xs i = some w) : opIx (.ref k) (.int i) A = .ok w A := by
  unfold opIx
  simp only [h, e]
end K33
namespace K33
open PySem PySem.Spec PyProof.Rows L2
theorem ix0 {A : Hs} {k : Nat} {a b c : W} (h : A[k]? = some (.lst [a, b, c])) : opIx (.ref k) (.int 0) A = .ok a A := ix_lst h (by rfl)
theorem ix1 {A : Hs} {k : Nat} {a b c : W} (h : A[k]? = some (.lst [a, b, c])) : opIx (.ref k) (.int 1) A = .ok b A := ix_lst h (by rfl)
theorem ix2 {A : Hs} {k : Nat} {a b c : W} (h : A[k]? = some (.lst [a, b, c])) : opIx (.ref k) (.int 2) A = .ok c A := ix_lst h (by rfl)
theorem at_set {A : Hs} {k : Nat} {o u : AO} (h : A[k]? = some o) : (A.set k u)[k]? = some u := List.getElem?_set_self (List.getElem?_eq_some_iff.mp h).1
/-- the dice: whatever it holds, a number below 36 comes out, and it is written anew -/
theorem roll_is (a b c : Int) (k : Nat) (A : Hs) (h : A[k]? = some (.lst [.int a, .int b, .int c])) : ∃ r a' b' c' : Int, 0 ≤ r ∧ r < 36 ∧ k_law_roll [.ref k, .int 36] A = .ok (.int r) (A.set k (.lst [.int a', .int b', .int c'])) := by
  by_cases hc : c = 2 ∨ (c = 1 ∧ 0 < a)
  · refine ⟨a % 36, a / 36, b, c, Int.emod_nonneg _ (by decide), Int.emod_lt_of_pos _ (by decide), ?_⟩
    by_cases h2 : c = 2
    · simp [k_law_roll, Res.bind, startW, fin, mSeq, mIfS, mOr, mAnd, mIsB, mBin, mVar, mC, mAsg, mPutL, mRet, mNext, mCall, mCons, mNil, opInt1, opIntC, opFDiv, Tg.put, eq_int, ix0 h, ix1 h, ix2 h, h2, h, ixN]
    · have h1 : c = 1 ∧ 0 < a := hc.resolve_left h2
      simp [k_law_roll, Res.bind, startW, fin, mSeq, mIfS, mOr, mAnd, mIsB, mBin, mVar, mC, mAsg, mPutL, mRet, mNext, mCall, mCons, mNil, opInt1, opIntC, opFDiv, Tg.put, eq_int, opCmp, ix0 h, ix1 h, ix2 h, h1.1, h1.2, h, ixN]
  · refine ⟨((a * 48271 + b * 69621 + 11) % 2147483647 / 7 + (a * 48271 + b * 69621 + 11) % 2147483647) % 36, (a * 48271 + b * 69621 + 11) % 2147483647, b + 1, 0, Int.emod_nonneg _ (by decide), Int.emod_lt_of_pos _ (by decide), ?_⟩
    have h2 : ¬ c = 2 := fun z => hc (.inl z)
    have h3 : ¬ (c = 1 ∧ 0 < a) := fun z => hc (.inr z)
    have hk : k < A.length := (List.getElem?_eq_some_iff.mp h).1
    have hs : ∀ u : AO, (A.set k u)[k]? = some u := fun u => List.getElem?_set_self hk
    have e0 : ∀ x y z : W, opIx (.ref k) (.int 0) (A.set k (.lst [x, y, z])) = .ok x (A.set k (.lst [x, y, z])) := fun x y z => ix0 (hs _)
    have e1 : ∀ x y z : W, opIx (.ref k) (.int 1) (A.set k (.lst [x, y, z])) = .ok y (A.set k (.lst [x, y, z])) := fun x y z => ix1 (hs _)
    by_cases h1 : c = 1
    · have h4 : ¬ 0 < a := fun z => h3 ⟨h1, z⟩
      simp [k_law_roll, Res.bind, startW, fin, mSeq, mIfS, mOr, mAnd, mIsB, mBin, mVar, mC, mAsg, mPutL, mRet, mNext, mCall, mCons, mNil, opInt1, opIntC, opFDiv, opMulS, opAdd, Tg.put, eq_int, opCmp, ix0 h, ix1 h, ix2 h, h1, h4, h, ixN, hs, e0, e1, List.set_set]
    · simp [k_law_roll, Res.bind, startW, fin, mSeq, mIfS, mOr, mAnd, mIsB, mBin, mVar, mC, mAsg, mPutL, mRet, mNext, mCall, mCons, mNil, opInt1, opIntC, opFDiv, opMulS, opAdd, Tg.put, eq_int, opCmp, ix0 h, ix1 h, ix2 h, h1, h2, h, ixN, hs, e0, e1, List.set_set]
end K33
namespace K33
open PySem PySem.Spec PyProof.Rows L2
theorem sz3 : sz 3 = true := by decide
theorem dice_is (x : Int) (A : Hs) : ∃ a b c : Int, k_law_dice [.int x] A = .ok (.ref A.length) (A ++ [.lst [.int a, .int b, .int c]]) := by
  by_cases h1 : 0 - 10 < x
  · by_cases h2 : x < 10
    · refine ⟨if x < 0 then -x else x, 0, 2, ?_⟩
      have h1' : -10 < x := by omega
      simp [k_law_dice, Res.bind, startW, fin, mSeq, mIfS, mIsB, mChain, mBin, mVar, mC, mRet, mNext, mCall, mCons, mNil, mLst, newO, sz3, opInt, opAbs, opCmp, h1', h2]
    · refine ⟨x, 1 + x % 1009, if 10 ^ 18 ≤ x then 1 else 0, ?_⟩
      have h1' : -10 < x := by omega
      simp [k_law_dice, Res.bind, startW, fin, mSeq, mIfS, mIsB, mChain, mBin, mVar, mC, mRet, mNext, mCall, mCons, mNil, mLst, newO, sz3, opInt, opInt1, opIntC, opPow, opAdd, opCmp, h1', h2]
  · refine ⟨x, 1 + x % 1009, if 10 ^ 18 ≤ x then 1 else 0, ?_⟩
    have h1' : ¬ -10 < x := by omega
    simp [k_law_dice, Res.bind, startW, fin, mSeq, mIfS, mIsB, mChain, mBin, mVar, mC, mRet, mNext, mCall, mCons, mNil, mLst, newO, sz3, opInt, opInt1, opIntC, opPow, opAdd, opCmp, h1']
end K33
namespace K33
open PySem PySem.Spec PyProof.Rows L2
def heapOf (r : Res W) : Hs := match r with
  | .ok _ A => A
  | _ => []
theorem rounds_nil : ∃ (j d : Nat) (a b c : Int) (A' : Hs), k_law_rounds [.ref 0, .int 1] [.lst []] = .ok (.ref j) A' ∧ A'[j]? = some (.lst [.ref d]) ∧ A'[d]? = some (.lst [.int a, .int b, .int c]) := ⟨4, 5, 0, 0, 2, heapOf (k_law_rounds [.ref 0, .int 1] [.lst []]), by kernel_rfl, by kernel_rfl, by kernel_rfl⟩
theorem sz0 : sz 0 = true := by decide
theorem sz1 : sz 1 = true := by decide
theorem cut1 (x : W) (xs : List W) : cutW (x :: xs) none (some 1) = [x] := by
  unfold cutW HT.sIx
  simp
theorem eq_nil {A : Hs} {i j : Nat} {n : Int} (h1 : A[i]? = some (.lst [.int n])) (h2 : A[j]? = some (.lst [])) : opEq false (.ref i) (.ref j) A = .ok (.bl false) A := by
  have e1 : deep 8 A (.ref i) = some (.list [.int n]) := by simp [deep, h1]
  have e2 : deep 8 A (.ref j) = some (.list []) := by simp [deep, h2]
  have z : (SeqAt.shaped (.list [.int n]) && SeqAt.shaped (.list [])) = true := by rfl
  have y : PyData.eqv (.list [.int n]) (.list []) = false := by rfl
  unfold opEq
  simp only [e1, e2, z, y, if_true]
  rfl
theorem rounds_cons (n : Int) (rest : List W) : ∃ (j d : Nat) (a b c : Int) (A' : Hs), k_law_rounds [.ref 0, .int 1] [.lst (.int n :: rest)] = .ok (.ref j) A' ∧ A'[j]? = some (.lst [.ref d]) ∧ A'[d]? = some (.lst [.int a, .int b, .int c]) := by
  obtain ⟨a, b, c, e⟩ := dice_is n [.lst (.int n :: rest), .lst [.int n], .lst [], .lst []]
  refine ⟨3, 4, a, b, c, [.lst (.int n :: rest), .lst [.int n], .lst [], .lst [.ref 4], .lst [.int a, .int b, .int c]], ?_, rfl, rfl⟩
  have q := eq_nil (A := [.lst (.int n :: rest), .lst [.int n], .lst []]) (i := 1) (j := 2) (n := n) rfl rfl
  have lp : ∀ (z : Lc) (st : Lc → Lc), loopN z st 24 = st (st (loopN z st 22)) := fun _ _ => rfl
  have e := e
  simp only [List.length_cons, List.length_nil, List.cons_append, List.nil_append] at e
  simp [k_law_rounds, Res.bind, startW, fin, mSeq, mAsg, mSl, mVar, mNoPart, mPart, mC, cutOf, newO, cut1, Tg.put, mIfS, mIsB, mBin, mLst, mNil, sz0, q, mRet, mNext, mLc, mWL, lp, lcStep, Src.nxt, nxtOf, wipeW, mYes, noX, mCallF, mCons, e, sz1]
end K33
namespace K33
open PySem PySem.Spec PyProof.Rows L2
theorem sc_law_dice : FnScope ["_law_cell"] ["_law_cell"] d_x_law_dice.scope := ⟨rfl, rfl, rfl, by decide +kernel, rfl, by decide +kernel, by decide +kernel⟩
theorem ok_law_dice {P : Program} {w : World} {K : PySem.W.Frag} {mg : Str → Option Value} {base : Heap} (T : Gd K mg base) : FnG P w K mg base d_x_law_dice.at_ 1 ["_law_cell"] 1 k_law_dice :=
  T.fun_ (d := d_x_law_dice) 99 (by rfl) sc_law_dice rfl (fun cdv A outer s H E hcd hr tk hx hp => have hN := sc_law_dice.nd; (d_scons (d_sif (d_tchain op_lt p_cmp op_lt p_cmp (d_op op_sub p_int d_int d_int) dv d_int) (d_scons (d_sret (d_lst (d_cons (d_callB call_abs p_abs (glk (by kernel_rfl)) (by exact T.free 157) (by kernel_rfl) (d_cons dv d_nil)) (d_cons d_int (d_cons d_int d_nil))))) d_snil) d_snil) (d_scons (d_sret (d_lst (d_cons dv (d_cons (d_op op_addAll p_add d_int (d_op op_mod (p_intC fun _ _ h => of_decide_eq_true h) (d_callTy call_int1 p_int1 (glk (by kernel_rfl)) (by exact T.free 158) (by kernel_rfl) (d_cons dv d_nil)) d_int)) (d_cons (d_callTy call_int1 p_int1 (glk (by kernel_rfl)) (by exact T.free 158) (by kernel_rfl) (d_cons (d_cmp op_ge p_cmp dv (d_op op_pow p_pow d_int d_int)) d_nil)) d_nil))))) d_snil)))
    (fun fd F => F.bindsN fun _ _ _ _ _ _ us hl => match us, hl with | [_], _ => rfl)
theorem sc_law_roll : FnScope ["_law_dice_here", "_law_many", "_law_found"] ["_law_dice_here", "_law_many"] d_x_law_roll.scope := ⟨rfl, rfl, rfl, by decide +kernel, rfl, by decide +kernel, by decide +kernel⟩
theorem ok_law_roll {P : Program} {w : World} {K : PySem.W.Frag} {mg : Str → Option Value} {base : Heap} (T : Gd K mg base) : FnG P w K mg base d_x_law_roll.at_ 1 ["_law_dice_here", "_law_many"] 2 k_law_roll :=
  T.fun_ (d := d_x_law_roll) 100 (by rfl) sc_law_roll rfl (fun cdv A outer s H E hcd hr tk hx hp => have hN := sc_law_roll.nd; (d_scons (d_sif (PW.pt (d_or (d_tcmp (op_eqD (hu64 hr)) p_eq (d_ix dv d_int) d_int) (d_or1 (PW.pt (d_and (d_tcmp (op_eqD (hu64 hr)) p_eq (d_ix dv d_int) d_int) (d_and1 (d_tcmp op_gt p_cmp (d_ix dv d_int) d_int))))))) (d_scons (dset 2 hN (d_op op_mod (p_intC fun _ _ h => of_decide_eq_true h) (d_callTy call_int1 p_int1 (glk (by kernel_rfl)) (by exact T.free 158) (by kernel_rfl) (d_cons (d_ix dv d_int) d_nil)) dv)) (d_scons (d_putL dv d_int (d_op op_fdiv p_fdiv (d_ix dv d_int) dv)) (d_scons (d_sret dv) d_snil))) d_snil) (d_scons (d_putL dv d_int d_int) (d_scons (d_putL dv d_int (d_op op_mod (p_intC fun _ _ h => of_decide_eq_true h) (d_callTy call_int1 p_int1 (glk (by kernel_rfl)) (by exact T.free 158) (by kernel_rfl) (d_cons (d_op op_addAll p_add (d_op op_addAll p_add (d_op op_mul p_mulS (d_ix dv d_int) d_int) (d_op op_mul p_mulS (d_ix dv d_int) d_int)) d_int) d_nil)) d_int)) (d_scons (d_putL dv d_int (d_op op_addAll p_add (d_ix dv d_int) d_int)) (d_scons (d_sret (d_op op_mod (p_intC fun _ _ h => of_decide_eq_true h) (d_callTy call_int1 p_int1 (glk (by kernel_rfl)) (by exact T.free 158) (by kernel_rfl) (d_cons (d_op op_addAll p_add (d_op op_fdiv p_fdiv (d_ix dv d_int) d_int) (d_ix dv d_int)) d_nil)) dv)) d_snil))))))
    (fun fd F => F.bindsN fun _ _ _ _ _ _ us hl => match us, hl with | [_, _], _ => rfl)
theorem sc_law_rounds : FnScope ["_law_script", "_law_most_now", "_law_cells", "_law_cell"] ["_law_script", "_law_most_now"] d_x_law_rounds.scope := ⟨rfl, rfl, rfl, by decide +kernel, rfl, by decide +kernel, by decide +kernel⟩
theorem ok_law_rounds {P : Program} {w : World} {K : PySem.W.Frag} {mg : Str → Option Value} {base : Heap} (T : Gd K mg base) : FnG P w K mg base d_x_law_rounds.at_ 2 ["_law_script", "_law_most_now"] 2 k_law_rounds :=
  T.fun_ (d := d_x_law_rounds) 101 (by rfl) sc_law_rounds rfl (fun cdv A outer s H E hcd hr tk hx hp => have hN := sc_law_rounds.nd; (d_scons (dset 2 hN (d_sl dv d_noPart (d_part dv))) (d_scons (d_sif (d_tcmp (op_eqD (hu64 hr)) p_eq dv (d_lst d_nil)) (d_scons (dset 2 hN (d_lst (d_cons d_int d_nil))) d_snil) d_snil) (d_scons (d_sret (d_lc rfl hN (d_wl dv) (blkOk_by (own := [("_law_cell", 3)]) (by kernel_rfl)) (by decide) (fun s H C cl fp => (dgn hN)) (fun s H C cl fp => d_ts0) (fun s H C cl fp => (w_call (ok_law_dice T) (rm hr) (glk (by kernel_rfl)) (by exact T.glo 159) passNo (d_cons dv d_nil))))) d_snil))))
    (fun fd F => F.bindsN fun _ _ _ _ _ _ us hl => match us, hl with | [_, _], _ => rfl)
end K33
namespace K33
open PySem PySem.Spec PyProof.Rows L2
/-! ## a lambda that outlives its maker -/
/-- the object at f is a lambda's function: its text, the cells that it took, its code object -/
def LamO (f : Addr) (q : Str) (params : Arguments) (body : Expr) (scope : Scope) (cl : List (Str × Addr)) (c : Addr) : HO :=
  .ext fun h => ∃ pm ctv, h.get? f = some (PySem.W.kla_obj "<lambda>" q params body scope cl pm c ctv)
/-- a cell that holds v -/
def CelO (c : Addr) (v : V) : HO := .ext fun h => ∃ u, RelV v u ∧ h.IsCell c (some u)
section
variable {X : Cx} {pins : List (Addr × Obj)} {σ : L2.St} {H : Hp} {s : Shared}
theorem lam_new {c P : Addr} {ps : Array Value} {params : Arguments} {body : Expr} {scope : Scope} {pos : Pos} {E : Value → Shared → Prop} {Q : Value → Shared → Prop} (I : Inv X pins σ H s) (TB : GxR.TabB X.base X.mg c P) (hcode : X.env.code = .ref c)
    (hP : H P = some (.tbl ps)) (ht : TriplesOk ps.toList) (hnf : codeAmong pos ps.toList = none) (hdef : defaultsOf params X.env = ([], [])) (hfree : ∀ y ∈ scope.names, y.2 = .free → ∃ c, X.env.cells.lookup y.1 = some c)
    (h : ∀ (f c' : Addr) (H0 : Hp) (s' : Shared), H0 = upd (upd H P (.tbl (ps ++ #[rawInt pos.line, rawInt pos.col, .ref c']))) c' (LamX.CodeO c' (X.env.qual ++ "<lambda>")) → H c' = none → H0 f = none →
      Inv X pins σ (upd H0 f (LamO f (X.env.qual ++ "<lambda>") params body scope (cloFrom X.env.cells scope.names []) c')) s' → Q (.ref f) s') :
    wpAny (model X.prog X.w) X.A (eval (.Lambda params body scope pos) X.env) Q E s := by
  refine PySem.W.kla_eval hdef ?_
  have bP : s.heap.BuiltinsAt X.mg P := TB.bm.keeps I.bk
  have gP : s.heap.get? P = some { cls := .none, data := .fields ps } := I.hok P _ hP
  refine PySem.W.kla_makeFunction (mg := X.mg) (c := c) (P := P) (ps := ps) (closure_ok hfree) I.ok.glob (I.mod.glob.keeps I.bk) hcode (TB.code.keeps I.bk) gP ht hnf TB.gP bP fun c' ctv h' tk hx hge hlt hrec htb => ?_
  obtain ⟨c2, oc, vs, t, e2, hoc, hd, hv⟩ := hrec
  cases e2
  have I1 := LamX.inv_table (t' := tk) (more := #[rawInt pos.line, rawInt pos.col, .ref c']) (h' := h') I hP (fun b o hb e => hx b o hb e) htb hge ⟨oc, vs, t, hoc, hd, hv⟩
  refine h h'.objs.size c' _ _ rfl (I.hok.fresh hge) (I1.hok.fresh (Nat.le_refl _)) ?_
  refine I1.laid (a := h'.objs.size) (fun b u e => Heap.get?_push_of_some _ e) (Nat.le_refl _) ?_
  have e := Heap.get?_push_size h' (o := PySem.W.kla_obj "<lambda>" (X.env.qual ++ "<lambda>") params body scope (cloFrom X.env.cells scope.names []) ((X.mg "__name__").getD .none) c' ctv) rfl
  exact ⟨⟨_, ctv, e⟩, ⟨_, e⟩, fun h1 h2 ⟨pm, ct, z⟩ st => ⟨pm, ct, st _ z⟩⟩
end
end K33
namespace K33
open PySem PySem.Spec PyProof.Rows L2
/-- a lambda's names: globals, and what it took from its maker -/
structure LamN (scope : Scope) : Prop where
  kind : scope.kind = .function
  co : scope.isCoroutine = false
  gen : scope.isGenerator = false
  own : ∀ y ∈ scope.names, y.2 ≠ .local ∧ y.2 ≠ .cell
/-- the context of a lambda's body, its maker gone -/
def lamC (P : Program) (w : World) (K : PySem.W.Frag) (mg : Str → Option Value) (base : Heap) (N : List Str) (q : Str) (scope : Scope) (f c' : Addr) (cl : List (Str × Addr)) (A : Around) (outer : List Env) (s : Shared) (H : Hp) (E : XK) : Cx where
  prog := P
  w := w
  K := K
  mg := mg
  base := base
  A := A.deeper (PySem.W.envX q scope s.heap.objs.size f (.ref c') cl)
  N := N
  s_0 := s
  H_0 := H
  env := PySem.W.envX q scope s.heap.objs.size f (.ref c') cl
  outer := outer
  stack := PySem.W.envX q scope s.heap.objs.size f (.ref c') cl :: outer
  ex := []
  fn := fun _ => false
  calm := true
  pn := []
  xe := fun e s' => wpAny (model P w) (A.deeper (PySem.W.envX q scope s.heap.objs.size f (.ref c') cl)) (leaving (PySem.W.envX q scope s.heap.objs.size f (.ref c') cl) e) (fun _ s'' => L2.CX P w outer H s E e s'') (fun e' s'' => L2.CX P w outer H s E e' s'') s'
section
variable {P : Program} {w : World} {K : PySem.W.Frag} {mg : Str → Option Value} {base : Heap} {N : List Str} {q : Str} {scope : Scope} {f c' : Addr} {cl : List (Str × Addr)} {A : Around} {outer : List Env} {s : Shared} {H : Hp} {E : XK} {σ : L2.St}
/-- what the cells hold -/
structure Took (N : List Str) (scope : Scope) (cl : List (Str × Addr)) (σ : L2.St) (H : Hp) (h : Heap) : Prop where
  inj : ∀ x y c, cl.lookup x = some c → cl.lookup y = some c → x = y
  has : ∀ x, scope.names.lookup x = some .free → ∃ c, cl.lookup x = some c
  free : ∀ x c, cl.lookup x = some c → H c = none ∧ ∃ u, h.IsCell c (some u)
  val : ∀ (i : Nat) (x : Str) (v : V) (c : Addr), N[i]? = some x → σ[i]? = some (some v) → cl.lookup x = some c → ∃ u, RelV v u ∧ h.IsCell c (some u)
  len : σ.length = N.length
theorem lamC_start {h₁ : Heap} {tk : Nat} (L : LamN scope) (C : Took N scope cl σ H s.heap) (e0 : Env0 P w K mg base A outer s H) (hd : A.handled = none) (hns : h₁.Ns s.heap.objs.size fun y => ([] : List (Str × Value)).reverse.lookup y) (kp : ∀ b o, s.heap.get? b = some o → h₁.get? b = some o) :
    Inv (lamC P w K mg base N q scope f c' cl A outer s H E) [] σ H { s with heap := h₁, toks := tk } := by
  have keepC : ∀ {c : Addr} {v : Option Value}, s.heap.IsCell c v → h₁.IsCell c v := fun {c v} z => by
    obtain ⟨o, ho, hd⟩ := z
    exact ⟨o, kp _ _ ho, hd⟩
  have noA : ∀ b : Addr, b ∉ (lamC P w K mg base N q scope f c' cl A outer s H E).ex := fun b z => absurd (show b ∈ ([] : List Addr) from z) (by simp)
  have onlyFree : ∀ {y : Str}, Vis scope y → scope.names.lookup y = some .free := fun {y} hv => by
    rcases hv with k | k | k
    · exact absurd rfl (L.own _ (PySem.mem_of_lookup k)).1
    · exact absurd rfl (L.own _ (PySem.mem_of_lookup k)).2
    · exact k
  refine ⟨⟨e0.mod, L.kind, rfl, rfl, Nat.le_refl _, C.inj, fun y hy => ?_, fun y c z _ => ?_, fun _ => hd, Around.frames_deeper e0.frames, .inr ⟨rfl, rfl⟩, fun b z => absurd z (noA b), e0.bs, e0.bsz, fun b _ _ => noA b, fun b z => absurd z (noA b), e0.funs, e0.frf⟩,
    rfl, e0.bare, Un.kept kp, ⟨_, hns, fun i y v e1 e2 e3 => ?_⟩, fun y c e => ?_, e0.hok.fresh (Nat.le_refl _), fun y c e => (C.free y c e).1, fun p hp => absurd (show p ∈ ([] : List (Addr × Obj)) ++ [] from hp) (by simp), e0.hok.kept kp, C.len⟩
  · have hy : scope.names.lookup y = some .cell ∨ scope.names.lookup y = some .free := hy
    exact C.has y (onlyFree (.inr hy))
  · have z : false = true := z
    cases z
  · have k := onlyFree (show Vis scope y from e3)
    obtain ⟨c, hc⟩ := C.has y k
    obtain ⟨u, r, hu⟩ := C.val i y v c e1 e2 hc
    exact ⟨u, r, .inr ⟨.inr k, c, hc, keepC hu⟩⟩
  · obtain ⟨_, u, hu⟩ := C.free y c e
    exact ⟨some u, keepC hu⟩
end
end K33
namespace K33
open PySem PySem.Spec PyProof.Rows L2
/-! ## cells out of sight, and back -/
/-- the heap without the objects at cs -/
def hid (cs : List Addr) (H : Hp) : Hp := fun b => if b ∈ cs then none else H b
/-- .. put back -/
def unh (cs : List Addr) (H H' : Hp) : Hp := fun b => if b ∈ cs then H b else H' b
def Cels (cs : List Addr) (H : Hp) : Prop := ∀ c ∈ cs, ∃ v, H c = some (CelO c v)
theorem hid_in {cs : List Addr} {H : Hp} {b : Addr} (h : b ∈ cs) : hid cs H b = none := if_pos h
theorem hid_out {cs : List Addr} {H : Hp} {b : Addr} (h : b ∉ cs) : hid cs H b = H b := if_neg h
theorem unh_in {cs : List Addr} {H H' : Hp} {b : Addr} (h : b ∈ cs) : unh cs H H' b = H b := if_pos h
theorem unh_out {cs : List Addr} {H H' : Hp} {b : Addr} (h : b ∉ cs) : unh cs H H' b = H' b := if_neg h
def isExt : HO → Bool
  | .ext _ => true
  | _ => false
section
variable {cs : List Addr} {H H' : Hp} {P : Program} {w : World} {K : PySem.W.Frag} {mg : Str → Option Value} {base : Heap} {A : Around} {outer : List Env} {s s' : Shared} {b : Addr} {o : HO} {h h' B : Heap}
theorem hid_none (e : H b = none) : hid cs H b = none := by
  unfold hid
  split
  · rfl
  · exact e
theorem hid_some (e : hid cs H b = some o) : H b = some o ∧ b ∉ cs := by
  unfold hid at e
  split at e
  · cases e
  · rename_i hb; exact ⟨e, hb⟩
theorem Cels.out (C : Cels cs H) (e : H b = some o) (n : isExt o = false) : b ∉ cs := fun hb => by
  obtain ⟨v, hv⟩ := C b hb
  rw [e] at hv
  cases hv
  cases n
theorem Cels.hid (C : Cels cs H) (e : H b = some o) (n : isExt o = false) : hid cs H b = some o := (hid_out (C.out e n)).trans e
theorem hid_hok (C : Cels cs H) (x : HOk P w H h) : HOk P w (hid cs H) h := fun b o e =>
  (x b o (hid_some e).1).stay (fun _ _ _ q => q) (fun c q => C.hid q rfl) fun c xs q => C.hid q rfl
theorem hid_env0 (C : Cels cs H) (e0 : Env0 P w K mg base A outer s H) : Env0 P w K mg base A outer s (hid cs H) :=
  ⟨e0.frames, e0.mod, fun b o e => ⟨(e0.bs b o e).1, hid_none (e0.bs b o e).2⟩, e0.bsz, e0.funs, fun b hb => hid_none (e0.frf b hb), hid_hok C e0.hok, e0.bare⟩
theorem unh_hok (C : Cels cs H) (h0 : HOk P w H h) (hk : ∀ c ∈ cs, ∀ o, h.get? c = some o → h'.get? c = some o) (hn : ∀ c ∈ cs, H' c = none) (ok : HOk P w H' h') : HOk P w (unh cs H H') h' := fun b o e => by
  by_cases hb : b ∈ cs
  · rw [unh_in hb] at e
    obtain ⟨v, hv⟩ := C b hb
    obtain ⟨p, ⟨o', e'⟩, st⟩ := h0 b _ hv
    rw [e] at hv; cases hv
    exact ⟨st h h' p fun o q => hk b hb o q, ⟨o', hk b hb o' e'⟩, st⟩
  · rw [unh_out hb] at e
    have out : ∀ c u, H' c = some u → c ∉ cs := fun c u q z => by rw [hn c z] at q; cases q
    exact (ok b o e).stay (fun _ _ _ q => q) (fun c q => by rw [unh_out (out c _ q)]; exact q) fun c xs q => by rw [unh_out (out c _ q)]; exact q
theorem cel_obj (C : Cels cs H) (h0 : HOk P w H h) {c : Addr} (hc : c ∈ cs) : ∃ o, h.get? c = some o := by
  obtain ⟨v, hv⟩ := C c hc
  exact (h0 c _ hv).2.1
theorem cel_nofr (C : Cels cs H) (hf : ∀ b ∈ frs outer, H b = none) {c : Addr} (hc : c ∈ cs) : c ∉ frs outer := fun z => by
  obtain ⟨v, hv⟩ := C c hc
  rw [hf c z] at hv; cases hv
theorem unh_CE {Q1 Q : VK} {u : Value} (C : Cels cs H) (h0 : HOk P w H s.heap) (hf : ∀ b ∈ frs outer, H b = none) (hQ : ∀ v H', (∀ c ∈ cs, H' c = none) → Q1 v H' → Q v (unh cs H H')) (x : CE outer P w (hid cs H) s Q1 u s') : CE outer P w H s Q u s' := by
  obtain ⟨v, H', os, bare, un, hok, r, q⟩ := x
  have hn : ∀ c ∈ cs, H' c = none := fun c hc => by
    obtain ⟨o, ho⟩ := cel_obj C h0 hc
    exact un.free c o ho (hid_in hc) (by simp)
  have hk : ∀ c ∈ cs, ∀ o, s.heap.get? c = some o → s'.heap.get? c = some o := fun c hc o ho => un.keep c o ho (hid_in hc) (cel_nofr C hf hc) (by simp)
  refine ⟨v, unh cs H H', os, bare, ⟨fun b o e n => un.keep b o e (hid_none n), fun b o e n => un.slot b o e (hid_none n), fun b o e n hx => ?_, un.there, fun b xs e => ?_, fun b o xs e => ?_, fun b ps e => ?_⟩, unh_hok C h0 hk hn hok, r, hQ v H' hn q⟩
  · have : b ∉ cs := fun z => by
      obtain ⟨v, hv⟩ := C b z
      rw [n] at hv; cases hv
    rw [unh_out this]; exact un.free b o e (hid_none n) hx
  · rw [unh_out (C.out e rfl)]; exact un.tups b xs (C.hid e rfl)
  · rw [unh_out (C.out e rfl)]; exact un.frzs b o xs (C.hid e rfl)
  · obtain ⟨more, z⟩ := un.tbls b ps (C.hid e rfl)
    exact ⟨more, by rw [unh_out (C.out e rfl)]; exact z⟩
theorem unh_CX {E1 E : XK} {u : Value} (C : Cels cs H) (h0 : HOk P w H s.heap) (hf : ∀ b ∈ frs outer, H b = none) (hE : ∀ cls d H', (∀ c ∈ cs, H' c = none) → E1 cls d H' → E cls d (unh cs H H')) (x : L2.CX P w outer (hid cs H) s E1 u s') : L2.CX P w outer H s E u s' := by
  obtain ⟨a, B, H', cls, d, e, fl, hok, ub, na, os, ag, q⟩ := x
  have hn : ∀ c ∈ cs, H' c = none := fun c hc => by
    obtain ⟨o, ho⟩ := cel_obj C h0 hc
    exact ub.free c o ho (hid_in hc)
  have hk : ∀ c ∈ cs, ∀ o, s.heap.get? c = some o → B.get? c = some o := fun c hc o ho => ub.keep c o ho (hid_in hc) (cel_nofr C hf hc)
  have ac : a ∉ cs := fun z => by
    obtain ⟨o, ho⟩ := cel_obj C h0 z
    have e1 := hk a z o ho
    obtain ⟨_, e2, _⟩ := fl
    rw [e1] at e2; cases e2
  refine ⟨a, B, unh cs H H', cls, d, e, fl, unh_hok C h0 hk hn hok, ⟨fun b o e n => ub.keep b o e (hid_none n), ub.slot, fun b o e n => ?_, ub.there, fun b xs e => ?_, fun b o xs e => ?_, fun b ps e => ?_⟩, by rw [unh_out ac]; exact na, os, ag, hE cls d H' hn q⟩
  · have : b ∉ cs := fun z => by
      obtain ⟨v, hv⟩ := C b z
      rw [n] at hv; cases hv
    rw [unh_out this]; exact ub.free b o e (hid_none n)
  · rw [unh_out (C.out e rfl)]; exact ub.tups b xs (C.hid e rfl)
  · rw [unh_out (C.out e rfl)]; exact ub.frzs b o xs (C.hid e rfl)
  · obtain ⟨more, z⟩ := ub.tbls b ps (C.hid e rfl)
    exact ⟨more, by rw [unh_out (C.out e rfl)]; exact z⟩
end
/-! ## a lambda called -/
/-- a lambda's text -/
structure LamT where
  params : Arguments
  body : Expr
  scope : Scope
/-- what its cells hold -/
structure TookH (N : List Str) (scope : Scope) (cl : List (Str × Addr)) (cs : List Addr) (σ : L2.St) (H : Hp) : Prop where
  inj : ∀ x y c, cl.lookup x = some c → cl.lookup y = some c → x = y
  has : ∀ x, scope.names.lookup x = some .free → ∃ c, cl.lookup x = some c
  mem : ∀ x c, cl.lookup x = some c → c ∈ cs
  val : ∀ (i : Nat) (x : Str) (v : V) (c : Addr), N[i]? = some x → σ[i]? = some (some v) → cl.lookup x = some c → H c = some (CelO c v)
  len : σ.length = N.length
theorem TookH.took {P : Program} {w : World} {N : List Str} {scope : Scope} {cl : List (Str × Addr)} {cs : List Addr} {σ : L2.St} {H : Hp} {h : Heap} (T : TookH N scope cl cs σ H) (C : Cels cs H) (ok : HOk P w H h) : Took N scope cl σ (hid cs H) h :=
  ⟨T.inj, T.has, fun x c e => ⟨hid_in (T.mem x c e), by
    obtain ⟨v, hv⟩ := C c (T.mem x c e)
    obtain ⟨⟨u, _, z⟩, _⟩ := ok c _ hv
    exact ⟨u, z⟩⟩, fun i x v c e1 e2 e3 => (ok c _ (T.val i x v c e1 e2 e3)).1, T.len⟩
/-- the reading of x(), x a lambda whose objects are tracked -/
def tLamc (P : Program) (w : World) (K : PySem.W.Frag) (mg : Str → Option Value) (base : Heap) (N : List Str) (k i : Nat) (W : WX) : TE := fun σ H Q => ∃ (E : XK) (f c' : Addr) (q : Str) (L : LamT) (cl : List (Str × Addr)) (cs : List Addr) (σ1 : L2.St) (tb : TE), (∀ cls d σ' H', E cls d H' → W cls d σ' H') ∧ σ[i]? = some (some (.ref f)) ∧
      H f = some (LamO f q L.params L.body L.scope cl c') ∧ H c' = some (LamX.CodeO c' q) ∧ LamN L.scope ∧ (∀ pm ctv, bindArgs (PySem.W.kla_fn "<lambda>" q L.params L.body L.scope cl pm (.ref c') ctv) ⟨[], []⟩ = pure []) ∧ Cels cs H ∧ TookH N L.scope cl cs σ1 H ∧
      (∀ (A : Around) (outer : List Env) (s : Shared) (H0 : Hp) (E1 : XK), Room k (A.deeper (PySem.W.envX q L.scope s.heap.objs.size f (.ref c') cl)) → E1 = (fun cls d H' => (∀ c ∈ cs, H' c = none) → E cls d (unh cs H H')) → PE (lamC P w K mg base N q L.scope f c' cl A outer s H0 E1) L.body tb) ∧
      ((∃ h, HOk P w H h) → tb σ1 (hid cs H) fun v H' => (∀ c ∈ cs, H' c = none) → Q v (unh cs H H'))
section
variable {X : Cx}
theorem pe_lam {i k : Nat} {a : Str} {N : List Str} {W : WX} {p1 p2 : Pos} (tk : Takes X W) (hr : Room (k + 1) X.A) (hN : X.N[i]? = some a) (hv : Vis X.env.scope a) (hd : (a == ("__debug__" : Str)) = false := by decide) (hcd : (a == ("__classdict__" : Str)) = false := by decide) :
    PE X (.Call (.Name a p1) [] [] p2) (tLamc X.prog X.w X.K X.mg X.base N k i W) := by
  refine ⟨fun pins s σ H Q I h => ?_⟩
  obtain ⟨E, f, c', q, L, cl, cs, σ1, tb, hW, hs, hf, hc, LN, hbind, C, T, hbody, ht⟩ := h
  have ht := ht ⟨_, I.hok⟩
  refine wpAny_Call_Name_kw (thn ((pe_var (pos := p1) (i := i) hN hv hd hcd).run pins s σ H (fun v H1 => v = .ref f ∧ H1 = H) I ⟨.ref f, hs, rfl, rfl⟩) fun u s1 ⟨v, H1, I1, r1, q1⟩ => ?_)
  obtain ⟨ev, eH⟩ := q1
  subst ev
  rw [eH] at I1
  obtain rfl : u = Value.ref f := r1
  obtain ⟨⟨pm, ctv, of1⟩, _, _⟩ := I1.hok f _ hf
  obtain ⟨⟨oc, vs, t, hoc, hdc, hvc⟩, _, _⟩ := I1.hok c' _ hc
  refine PySem.W.callWith_F0 ⟨_, _, _, _, of1⟩ ?_
  have e0 := hid_env0 C I1.env0
  have rc : codeAny (model X.prog X.w) X.A (.call (.ref f) ⟨[], []⟩) (CR (L2.CX X.prog X.w) X.stack X.prog X.w (hid cs H) s1 (fun v H' => (∀ c ∈ cs, H' c = none) → Q v (unh cs H H')) (fun cls d H' => (∀ c ∈ cs, H' c = none) → E cls d (unh cs H H'))) s1 := by
    refine PySem.W.kla_callFunE hr.depth of1 rfl LN.co LN.gen rfl ⟨c', oc, vs, t, rfl, hoc, hdc, hvc⟩ ?_
    rw [hbind]
    refine wpAny_pure (wpAny_newFunctionEnv (fun y hy => (LN.own y hy).2) (fun y hy => absurd hy (by simp)) (fun h₁ hns hsb => ⟨I1.nolimit.fresh _ hsb, ?_⟩) LN.kind)
    show codeAny _ _ (.expr L.body (PySem.W.envX q L.scope s1.heap.objs.size f (.ref c') cl)) _ _
    have kp : ∀ b o, s1.heap.get? b = some o → h₁.get? b = some o := fun b o e => hsb.extBut b o (Nat.ne_of_lt (Heap.lt_size e)) (Heap.get?_push_of_some _ e)
    have J : Inv (lamC X.prog X.w X.K X.mg X.base N q L.scope f c' cl X.A X.stack s1 (hid cs H) (fun cls d H' => (∀ c ∈ cs, H' c = none) → E cls d (unh cs H H'))) [] σ1 (hid cs H) { s1 with heap := h₁, toks := s1.toks + ([] : List (Str × Value)).length } :=
      lamC_start LN (T.took C I1.hok) e0 hr.hd hns kp
    refine PySem.W.kla_codeExpr (wpAny_mono ((hbody _ _ s1 _ _ (hr.deeper _) rfl).run [] _ _ _ _ J ht) (fun v s' hq => ?_) fun e s' hq => hq)
    obtain ⟨w', H', J', rv, q⟩ := hq
    exact ⟨w', H', J'.os, J'.bare, J'.base, J'.hok, rv, q⟩
  have hx := passes_call (E := E) tk hW
  have hf' : ∀ b ∈ frs X.stack, H b = none := I1.stkFree
  refine wpAny_call (codeAny_mono rc fun r s' hq => ?_)
  cases r with
  | error e => exact hx pins σ H s1 e s' I1 (unh_CX C I1.hok hf' (fun _ _ H' hn z => z hn) hq)
  | ok fl =>
    cases fl with
    | ret u => exact I1.after (unh_CE C I1.hok hf' (fun _ H' hn z => z hn) hq)
    | next => exact False.elim hq
    | brk => exact False.elim hq
    | cont => exact False.elim hq
end
end K33
namespace K33
open PySem PySem.Spec PyProof.Rows L2
/-! ## a def that keeps a promise of any form -/
structure FnS (P : Program) (w : World) (K : PySem.W.Frag) (mg : Str → Option Value) (base : Heap) (p : Str × Option Str) (k : Nat) (ps : List Str) (sp : Sp) : Prop where
  ex : ∃ fd, FnOk P w K mg base (L2.CX P w) k (He.fAd K p) fd ps sp ∧ Binds K fd ps []
  kp : PySem.W.keepIn K (.ref (He.fAd K p)) = true
section
variable {P : Program} {w : World} {K : PySem.W.Frag} {mg : Str → Option Value} {base : Heap}
theorem Gd.funS (T : Gd K mg base) {d : He.DefD} (i : Nat) (hd : fn[i]? = some d) {N ps : List Str} {k : Nat} {sp : Sp} (S : FnScope N ps d.scope) (len : ∀ vs H Q E, sp vs H Q E → vs.length = ps.length)
    (hb : ∀ (cdv : Value) (A : Around) (outer : List Env) (s : Shared) (H : Hp) (vs : List V) (Q : VK) (E : XK), cdv = .ref (He.cT K d.at_).1 → Room k (cxOf (L2.CX P w) P w K mg base N d.qual d.scope (He.fAd K d.at_) cdv A outer s H E).A →
      Takes (cxOf (L2.CX P w) P w K mg base N d.qual d.scope (He.fAd K d.at_) cdv A outer s H E) (fun cls d _ H => E cls d H) → Passes (L2.CX P w) (cxOf (L2.CX P w) P w K mg base N d.qual d.scope (He.fAd K d.at_) cdv A outer s H E) E →
      PassesOwn (model P w) (cxOf (L2.CX P w) P w K mg base N d.qual d.scope (He.fAd K d.at_) cdv A outer s H E).A (cxOf (L2.CX P w) P w K mg base N d.qual d.scope (He.fAd K d.at_) cdv A outer s H E).env (cxOf (L2.CX P w) P w K mg base N d.qual d.scope (He.fAd K d.at_) cdv A outer s H E).xe →
      sp vs H Q E → ∃ t, PSs (cxOf (L2.CX P w) P w K mg base N d.qual d.scope (He.fAd K d.at_) cdv A outer s H E) d.body t ∧ t { nx := fun _ H' => Q .non H', rt := Q } (L2.start N vs) H)
    (hbind : ∀ fd, FunD K d.name d.qual d.params d.body d.scope (d.dvs K) (d.kws K) (He.fAd K d.at_) fd → Binds K fd ps []) :
    FnS P w K mg base d.at_ (k + 1) ps sp := by
  obtain ⟨fd, F⟩ := T.says.def_ i hd
  have hB := hbind fd F
  obtain ⟨oc, od, dV, kV, doc, pm, an, cdv, ct, osl, rfl, lk, hcd, _, _⟩ := F.ex
  obtain ⟨c, rfl⟩ := He.codeIn_ref hcd
  have ec : c = (He.cT K d.at_).1 := (He.codeOf_eq lk rfl).symm
  refine ⟨⟨PySem.W.fnOf d.name d.qual d.params d.body d.scope dV kV doc pm an (.ref c) ct, ?_, hB⟩, F.kp⟩
  refine fn_of lk hcd S len fun A outer s H vs Q E hr hsp => ?_
  exact hb (.ref c) A outer s H vs Q E (by rw [ec]) hr (takes_of rfl rfl rfl rfl) (passes_call (takes_of rfl rfl rfl rfl) fun _ _ _ _ h => h) (passes_of rfl) hsp
/-! ## _law_told -/
def cz (K : PySem.W.Frag) (x : Str) : Value := .ref (He.ga K x)
def clz (K : PySem.W.Frag) : List (Value × (Addr → Value → Option Addr → TS)) := [(cz K "BadWish", fun _ _ _ => tRet (tC (.str "wish"))), (cz K "BadRoom", fun _ _ _ => tRet (tC (.str "room"))), (cz K "BadMatch", fun _ _ _ => tRet (tC (.str "match"))), (cz K "BadPaper", fun _ _ _ => tRet (tC (.str "paper"))), (cz K "BadSize", fun _ _ _ => tRet (tC (.str "size"))), (cz K "BadText", fun _ _ _ => tRet (tC (.str "text"))), (cz K "BadStore", fun _ _ _ => tRet (tC (.str "store"))), (cz K "NoSuch", fun _ _ _ => tRet (tC (.str "no such"))), (cz K "BadDeed", fun _ _ _ => tRet (tC (.str "deed")))]
def dueTab : List (Nat × Str) := [(1, "wish"), (2, "room"), (3, "match"), (4, "paper"), (5, "size"), (6, "text"), (8, "no such"), (9, "deed")]
theorem told_wish (T : Gd K mg base) {D : Ends} {cn : Nat} {due : Str} {d : Option Addr} {σ : L2.St} {H : Hp} (hm : (cn, due) ∈ dueTab) (h : D.rt (.str due) H) : wMany K (fun _ _ _ _ => False) D (clz K) (.ref (He.ga K (cnm cn))) d σ H := by
  simp only [dueTab, List.mem_cons, Prod.mk.injEq, List.not_mem_nil, or_false] at hm
  rcases hm with ⟨rfl, rfl⟩ | ⟨rfl, rfl⟩ | ⟨rfl, rfl⟩ | ⟨rfl, rfl⟩ | ⟨rfl, rfl⟩ | ⟨rfl, rfl⟩ | ⟨rfl, rfl⟩ | ⟨rfl, rfl⟩
  · exact ⟨true, He.exm_ok (T.says.fact 211 (by rfl)), fun _ a _ => h, fun z => Bool.noConfusion z⟩
  · exact ⟨false, He.exm_ok (T.says.fact 212 (by rfl)), fun z => Bool.noConfusion z, fun _ => ⟨true, He.exm_ok (T.says.fact 213 (by rfl)), fun _ a _ => h, fun z => Bool.noConfusion z⟩⟩
  · exact ⟨false, He.exm_ok (T.says.fact 214 (by rfl)), fun z => Bool.noConfusion z, fun _ => ⟨false, He.exm_ok (T.says.fact 215 (by rfl)), fun z => Bool.noConfusion z, fun _ => ⟨true, He.exm_ok (T.says.fact 216 (by rfl)), fun _ a _ => h, fun z => Bool.noConfusion z⟩⟩⟩
  · exact ⟨false, He.exm_ok (T.says.fact 217 (by rfl)), fun z => Bool.noConfusion z, fun _ => ⟨false, He.exm_ok (T.says.fact 218 (by rfl)), fun z => Bool.noConfusion z, fun _ => ⟨false, He.exm_ok (T.says.fact 219 (by rfl)), fun z => Bool.noConfusion z, fun _ => ⟨true, He.exm_ok (T.says.fact 220 (by rfl)), fun _ a _ => h, fun z => Bool.noConfusion z⟩⟩⟩⟩
  · exact ⟨false, He.exm_ok (T.says.fact 221 (by rfl)), fun z => Bool.noConfusion z, fun _ => ⟨false, He.exm_ok (T.says.fact 222 (by rfl)), fun z => Bool.noConfusion z, fun _ => ⟨false, He.exm_ok (T.says.fact 223 (by rfl)), fun z => Bool.noConfusion z, fun _ => ⟨false, He.exm_ok (T.says.fact 224 (by rfl)), fun z => Bool.noConfusion z, fun _ => ⟨true, He.exm_ok (T.says.fact 225 (by rfl)), fun _ a _ => h, fun z => Bool.noConfusion z⟩⟩⟩⟩⟩
  · exact ⟨false, He.exm_ok (T.says.fact 226 (by rfl)), fun z => Bool.noConfusion z, fun _ => ⟨false, He.exm_ok (T.says.fact 227 (by rfl)), fun z => Bool.noConfusion z, fun _ => ⟨false, He.exm_ok (T.says.fact 228 (by rfl)), fun z => Bool.noConfusion z, fun _ => ⟨false, He.exm_ok (T.says.fact 229 (by rfl)), fun z => Bool.noConfusion z, fun _ => ⟨false, He.exm_ok (T.says.fact 230 (by rfl)), fun z => Bool.noConfusion z, fun _ => ⟨true, He.exm_ok (T.says.fact 231 (by rfl)), fun _ a _ => h, fun z => Bool.noConfusion z⟩⟩⟩⟩⟩⟩
  · exact ⟨false, He.exm_ok (T.says.fact 232 (by rfl)), fun z => Bool.noConfusion z, fun _ => ⟨false, He.exm_ok (T.says.fact 233 (by rfl)), fun z => Bool.noConfusion z, fun _ => ⟨false, He.exm_ok (T.says.fact 234 (by rfl)), fun z => Bool.noConfusion z, fun _ => ⟨false, He.exm_ok (T.says.fact 235 (by rfl)), fun z => Bool.noConfusion z, fun _ => ⟨false, He.exm_ok (T.says.fact 236 (by rfl)), fun z => Bool.noConfusion z, fun _ => ⟨false, He.exm_ok (T.says.fact 237 (by rfl)), fun z => Bool.noConfusion z, fun _ => ⟨false, He.exm_ok (T.says.fact 238 (by rfl)), fun z => Bool.noConfusion z, fun _ => ⟨true, He.exm_ok (T.says.fact 239 (by rfl)), fun _ a _ => h, fun z => Bool.noConfusion z⟩⟩⟩⟩⟩⟩⟩⟩
  · exact ⟨false, He.exm_ok (T.says.fact 240 (by rfl)), fun z => Bool.noConfusion z, fun _ => ⟨false, He.exm_ok (T.says.fact 241 (by rfl)), fun z => Bool.noConfusion z, fun _ => ⟨false, He.exm_ok (T.says.fact 242 (by rfl)), fun z => Bool.noConfusion z, fun _ => ⟨false, He.exm_ok (T.says.fact 243 (by rfl)), fun z => Bool.noConfusion z, fun _ => ⟨false, He.exm_ok (T.says.fact 244 (by rfl)), fun z => Bool.noConfusion z, fun _ => ⟨false, He.exm_ok (T.says.fact 245 (by rfl)), fun z => Bool.noConfusion z, fun _ => ⟨false, He.exm_ok (T.says.fact 246 (by rfl)), fun z => Bool.noConfusion z, fun _ => ⟨false, He.exm_ok (T.says.fact 247 (by rfl)), fun z => Bool.noConfusion z, fun _ => ⟨true, He.exm_ok (T.says.fact 248 (by rfl)), fun _ a _ => h, fun z => Bool.noConfusion z⟩⟩⟩⟩⟩⟩⟩⟩⟩

/-- what is asked of the lambda handed over: it raises what is due -/
structure Tells (P : Program) (w : World) (K : PySem.W.Frag) (mg : Str → Option Value) (base : Heap) (k : Nat) (f : Addr) (H : Hp) (Q : VK) : Prop where
  ex : ∃ (c' : Addr) (q : Str) (L : LamT) (cl : List (Str × Addr)) (cs : List Addr) (N : List Str) (σ1 : L2.St) (t : ET) (cn : Nat) (due : Str), (cn, due) ∈ dueTab ∧
    H f = some (LamO f q L.params L.body L.scope cl c') ∧ H c' = some (LamX.CodeO c' q) ∧ LamN L.scope ∧ (∀ pm ctv, bindArgs (PySem.W.kla_fn "<lambda>" q L.params L.body L.scope cl pm (.ref c') ctv) ⟨[], []⟩ = pure []) ∧ Cels cs H ∧ TookH N L.scope cl cs σ1 H ∧
    (∀ (A : Around) (outer : List Env) (s : Shared) (H0 : Hp) (E1 : XK), Room k (A.deeper (PySem.W.envX q L.scope s.heap.objs.size f (.ref c') cl)) → PE (lamC P w K mg base N q L.scope f c' cl A outer s H0 E1) L.body (rE (G K) E1 t)) ∧
    ((∃ h, HOk P w H h) → ∃ (ρ : List Addr) (S : Slots) (A A' : Hs), At (G K) ρ S A σ1 (hid cs H) ∧ t S A = .exc cn A' ∧ ∀ ρ' H', Ext ρ ρ' → M (G K) ρ' A' H' → (∀ c ∈ cs, H' c = none) → Q (.str due) (unh cs H H'))
def spTold (P : Program) (w : World) (K : PySem.W.Frag) (mg : Str → Option Value) (base : Heap) (k : Nat) : Sp := fun vs H Q _ => ∃ f, vs = [.ref f] ∧ Tells P w K mg base k f H Q
theorem sc_law_told : FnScope ["_law_what"] ["_law_what"] d_x_law_told.scope := ⟨rfl, rfl, rfl, by decide +kernel, rfl, by decide +kernel, by decide +kernel⟩
theorem ok_law_told (T : Gd K mg base) (k : Nat) : FnS P w K mg base d_x_law_told.at_ (k + 2) ["_law_what"] (spTold P w K mg base k) := by
  refine T.funS (d := d_x_law_told) 102 (by rfl) sc_law_told (fun vs H Q E h => by obtain ⟨f, rfl, _⟩ := h; rfl) (fun cdv A outer s H vs Q E hcd hr tk hx hp hsp => ?_) (fun fd F => F.bindsN fun _ _ _ _ _ _ us hl => match us, hl with | [_], _ => rfl)
  obtain ⟨f, rfl, ⟨c', q, L, cl, cs, N, σ1, t, cn, due, hdue, hf, hc, LN, hbind, C, TT, hbody, hgo⟩⟩ := hsp
  refine ⟨_, pss_one (ps_try_many (l := clz K) (tb := fun W => tRet (tLamc P w K mg base N k 0 W)) rfl rfl takes_none5 (fun W pn xe tkW _ => pss_one (ps_ret (pe_lam (i := 0) (k := k) (N := N) tkW hr rfl (.inl rfl)))) ?_), ?_⟩
  · exact .cons ⟨rfl, by decide, .inl (T.glo 4)⟩ (fun a oe cls d pn _ _ => pss_one (ps_ret pe_str)) (.cons ⟨rfl, by decide, .inl (T.glo 117)⟩ (fun a oe cls d pn _ _ => pss_one (ps_ret pe_str)) (.cons ⟨rfl, by decide, .inl (T.glo 16)⟩ (fun a oe cls d pn _ _ => pss_one (ps_ret pe_str)) (.cons ⟨rfl, by decide, .inl (T.glo 37)⟩ (fun a oe cls d pn _ _ => pss_one (ps_ret pe_str)) (.cons ⟨rfl, by decide, .inl (T.glo 10)⟩ (fun a oe cls d pn _ _ => pss_one (ps_ret pe_str)) (.cons ⟨rfl, by decide, .inl (T.glo 43)⟩ (fun a oe cls d pn _ _ => pss_one (ps_ret pe_str)) (.cons ⟨rfl, by decide, .inl (T.glo 210)⟩ (fun a oe cls d pn _ _ => pss_one (ps_ret pe_str)) (.cons ⟨rfl, by decide, .inl (T.glo 129)⟩ (fun a oe cls d pn _ _ => pss_one (ps_ret pe_str)) (.cons ⟨rfl, by decide, .inl (T.glo 125)⟩ (fun a oe cls d pn _ _ => pss_one (ps_ret pe_str)) .nil))))))))
  · refine ⟨fun cls d H' => cls = .ref ((G K).ga cn) ∧ Q (.str due) H', f, c', q, L, cl, cs, σ1, rE (G K) (fun cls d H' => (∀ c ∈ cs, H' c = none) → cls = .ref ((G K).ga cn) ∧ Q (.str due) (unh cs H H')) t, ?_, rfl, hf, hc, LN, hbind, C, TT, ?_, ?_⟩
    · rintro cls d σ' H' ⟨rfl, hq⟩
      exact told_wish T hdue hq
    · rintro A outer s H0 E1 hr rfl
      exact hbody A outer s H0 _ hr
    · intro hh
      obtain ⟨ρ, S, A0, A', at_, ht, hQ⟩ := hgo hh
      refine ⟨ρ, S, A0, at_, ?_⟩
      rw [ht]
      exact fun ρ' H' e m hn => ⟨rfl, hQ ρ' H' e m hn⟩
end
end K33
namespace K33
open PySem PySem.Spec PyProof.Rows L2
/-! ## the described heap: objects by what is true of them; less of it; renumbered; cells hidden and back -/
section
variable {g : Gr} {ρ l : List Addr} {A B : Hs} {H H' : Hp}
theorem M.pushR {p : Addr} {o : HO} (m : M g ρ A H) (hp : H p = none) (ho : ∀ ps, o ≠ .tbl ps) : M g (ρ ++ [p]) (A ++ [.raw o]) (upd H p o) := by
  have np := m.new_nin hp
  refine ⟨List.nodup_append.mpr ⟨m.nd, by simp, fun a ha b hb => by rw [List.mem_singleton.mp hb]; exact fun e => np (e ▸ ha)⟩, by simp [m.len], fun k a o' e h => ?_, fun P hP => TabG.upd_ (m.tab P hP) (.inl hp), fun k a P e h => ?_, g.jn m.inv hp⟩
  · by_cases hk : k < ρ.length
    · rw [List.getElem?_append_left hk] at e
      rw [List.getElem?_append_left (by rw [← m.len]; exact hk)] at h
      exact ((m.obj k a o' e h).ext ⟨[p], rfl⟩).at_ (upd_ne fun z => np (by rw [← z]; exact List.mem_of_getElem? e))
    · have hk2 : k = ρ.length := by
        have := (List.getElem?_eq_some_iff.mp e).1
        simp at this
        omega
      subst hk2
      rw [List.getElem?_append_right (Nat.le_refl _)] at e
      rw [m.len, List.getElem?_append_right (Nat.le_refl _)] at h
      simp at e h
      subst e; subst h
      exact upd_same
  · by_cases hk : k < A.length
    · rw [List.getElem?_append_left hk] at h
      rw [List.getElem?_append_left (by rw [m.len]; exact hk)] at e
      exact m.nt k a P e h
    · rw [List.getElem?_append_right (Nat.le_of_not_lt hk)] at h
      have : k - A.length = 0 := by
        have := (List.getElem?_eq_some_iff.mp h).1
        simp at this; omega
      rw [this] at h
      simp at h
      exact absurd h (ho P)
/-! less -/
def inW' (n : Nat) : W → Bool
  | .ref k => decide (k < n)
  | _ => true
def inAO (n : Nat) : AO → Bool
  | .lst xs => xs.all (inW' n)
  | .tup xs => xs.all (inW' n)
  | .dK kvs => kvs.all fun p => inW' n p.2
  | .dT0 => true
  | .ins _ fs => fs.all fun p => inW' n p.2
  | .raw _ => true
theorem RV.less {w : W} {v : V} (h : RV (ρ ++ l) w v) (c : inW' ρ.length w = true) : RV ρ w v := by
  cases w with
  | ref k =>
    obtain ⟨a, e, ea⟩ := h
    have hk : k < ρ.length := of_decide_eq_true c
    rw [List.getElem?_append_left hk] at ea
    exact ⟨a, e, ea⟩
  | _ => exact h
theorem RVs.less : ∀ {ws : List W} {vs : List V}, RVs (ρ ++ l) ws vs → ws.all (inW' ρ.length) = true → RVs ρ ws vs
  | _, _, .nil, _ => .nil
  | w :: ws, v :: vs, .cons r t, c => by
    rw [List.all_cons, Bool.and_eq_true] at c
    exact .cons (r.less c.1) (RVs.less t c.2)
theorem RKV.less {κ : Type} : ∀ {ws : List (κ × W)} {vs : List (κ × V)}, RKV (ρ ++ l) ws vs → (ws.all fun p => inW' ρ.length p.2) = true → RKV ρ ws vs
  | _, _, .nil, _ => .nil
  | w :: ws, v :: vs, .cons r t, c => by
    rw [List.all_cons, Bool.and_eq_true] at c
    exact .cons ⟨r.1, r.2.less c.1⟩ (RKV.less t c.2)
theorem RO.less {a : Addr} {o : AO} (h : RO g (ρ ++ l) H a o) (c : inAO ρ.length o = true) : RO g ρ H a o := by
  cases o with
  | lst xs => obtain ⟨vs, r, e⟩ := h; exact ⟨vs, r.less c, e⟩
  | tup xs => obtain ⟨vs, r, e⟩ := h; exact ⟨vs, r.less c, e⟩
  | dK kvs => obtain ⟨vs, r, e⟩ := h; exact ⟨vs, RKV.less r c, e⟩
  | dT0 => exact h
  | ins cc fs => obtain ⟨dx, vs, r, e⟩ := h; exact ⟨dx, vs, RKV.less r c, e⟩
  | raw o => exact h
theorem M.take (m : M g (ρ ++ l) (A ++ B) H) (hl : ρ.length = A.length) (c : A.all (inAO A.length) = true) : M g ρ A H := by
  refine ⟨(List.nodup_append.mp m.nd).1, hl, fun k a o e h => ?_, m.tab, fun k a P e h => ?_, m.inv⟩
  · have hk := (List.getElem?_eq_some_iff.mp e).1
    have hk2 := (List.getElem?_eq_some_iff.mp h).1
    refine (m.obj k a o (by rw [List.getElem?_append_left hk]; exact e) (by rw [List.getElem?_append_left hk2]; exact h)).less ?_
    rw [hl]
    exact List.all_eq_true.mp c o (List.mem_of_getElem? h)
  · have hk := (List.getElem?_eq_some_iff.mp e).1
    have hk2 := (List.getElem?_eq_some_iff.mp h).1
    exact m.nt k a P (by rw [List.getElem?_append_left hk]; exact e) (by rw [List.getElem?_append_left hk2]; exact h)
/-- .. of a heap that went on from it -/
theorem M.takeE {ρ' : List Addr} {A' : Hs} (m : M g ρ' A' H) (x : Ext ρ ρ') (hl : ρ.length = A.length) (c : A.all (inAO A.length) = true) (hA : A'.take A.length = A) : M g ρ A H := by
  obtain ⟨l, rfl⟩ := x
  have e : A' = A ++ A'.drop A.length := by
    have := List.take_append_drop A.length A'
    rw [hA] at this
    exact this.symm
  rw [e] at m
  exact m.take hl c
/-! renumbered: the first object left out -/
def W.up : W → W
  | .ref k => .ref (k + 1)
  | w => w
def AO.up : AO → AO
  | .lst xs => .lst (xs.map W.up)
  | .tup xs => .tup (xs.map W.up)
  | .dK kvs => .dK (kvs.map fun p => (p.1, p.2.up))
  | .dT0 => .dT0
  | .ins c fs => .ins c (fs.map fun p => (p.1, p.2.up))
  | .raw o => .raw o
def W.dn : W → W
  | .ref k => .ref (k - 1)
  | w => w
def AO.dn : AO → AO
  | .lst xs => .lst (xs.map W.dn)
  | .tup xs => .tup (xs.map W.dn)
  | .dK kvs => .dK (kvs.map fun p => (p.1, p.2.dn))
  | .dT0 => .dT0
  | .ins c fs => .ins c (fs.map fun p => (p.1, p.2.dn))
  | .raw o => .raw o
variable {P : Addr}
theorem RV.tail {w : W} {v : V} (h : RV (P :: ρ) w.up v) : RV ρ w v := by
  cases w with
  | ref k => exact h
  | _ => exact h
theorem RVs.tail : ∀ {ws : List W} {vs : List V}, RVs (P :: ρ) (ws.map W.up) vs → RVs ρ ws vs
  | [], _, .nil => .nil
  | _ :: _, _, .cons r t => .cons r.tail (RVs.tail t)
theorem RKV.tail {κ : Type} : ∀ {ws : List (κ × W)} {vs : List (κ × V)}, RKV (P :: ρ) (ws.map fun p => (p.1, p.2.up)) vs → RKV ρ ws vs
  | [], _, .nil => .nil
  | _ :: _, _, .cons r t => .cons ⟨r.1, r.2.tail⟩ (RKV.tail t)
theorem RO.tail {a : Addr} {o : AO} (h : RO g (P :: ρ) H a o.up) : RO g ρ H a o := by
  cases o with
  | lst xs => obtain ⟨vs, r, e⟩ := h; exact ⟨vs, RVs.tail r, e⟩
  | tup xs => obtain ⟨vs, r, e⟩ := h; exact ⟨vs, RVs.tail r, e⟩
  | dK kvs => obtain ⟨vs, r, e⟩ := h; exact ⟨vs, RKV.tail r, e⟩
  | dT0 => exact h
  | ins cc fs => obtain ⟨dx, vs, r, e⟩ := h; exact ⟨dx, vs, RKV.tail r, e⟩
  | raw o => exact h
theorem M.tail {o : AO} (m : M g (P :: ρ) (o :: A.map AO.up) H) : M g ρ A H := by
  refine ⟨(List.nodup_cons.mp m.nd).2, by have := m.len; simpa using this, fun k a o' e h => ?_, m.tab, fun k a Q e h => ?_, m.inv⟩
  · refine (m.obj (k + 1) a o'.up (by simpa using e) ?_).tail
    rw [List.getElem?_cons_succ, List.getElem?_map, h]; rfl
  · refine m.nt (k + 1) a Q (by simpa using e) ?_
    rw [List.getElem?_cons_succ, List.getElem?_map, h]; rfl
def upO : Option W → Option W
  | some w => some w.up
  | none => none
theorem SR.tail : ∀ {S : Slots} {σ : L2.St}, SR (P :: ρ) (S.map upO) σ → SR ρ S σ
  | [], _, .nil => .nil
  | none :: S, _, .cons _ t => .cons trivial (SR.tail t)
  | some w :: S, _, .cons ⟨y, e, r⟩ t => .cons ⟨y, e, r.tail⟩ (SR.tail t)
end
/-! this program's ground: a table aside; cells hidden, put back -/
section
variable {ga : Nat → Addr} {tabs : List Addr} {P0 : Addr} {ρ : List Addr} {A : Hs} {H H' : Hp}
theorem M.side {Q : Addr} {ps ps' : Array Value} (m : M (mkG ga tabs P0) ρ A H) (hQ : H Q = some (.tbl ps)) (hn : Q ∉ ρ) (ht : Q ∉ tabs) (h0 : P0 ≠ Q) (t : TriplesOk ps.toList) (t' : TriplesOk ps'.toList) : M (mkG ga tabs P0) ρ A (upd H Q (.tbl ps')) :=
  m.else_ (fun a ha => upd_ne fun z => hn (z ▸ ha)) (fun R hR => by
    obtain ⟨qs, e, z⟩ := m.tab R hR
    exact ⟨qs, by rw [upd_ne (show R ≠ Q from fun y => ht (by rw [← y]; exact hR))]; exact e, z⟩) ⟨m.inv.1, m.inv.2.tabbed (Q := Q) ⟨ps, hQ, t⟩ h0 ⟨⟨ps', upd_same, t'⟩, fun b hb => upd_ne hb⟩⟩
theorem M.hid {cs : List Addr} {P : Program} {w : World} {h : Heap} (m : M (mkG ga tabs P0) ρ A H) (C : Cels cs H) (x : HOk P w H h) (hn : ∀ c ∈ cs, c ∉ ρ) : M (mkG ga tabs P0) ρ A (hid cs H) := by
  have noC : ∀ c P', H c = some (CodeHO c P') → c ∉ cs := fun c P' e hc => by
    obtain ⟨v, hv⟩ := C c hc
    obtain ⟨⟨u, _, o, e1, d1⟩, _⟩ := x c _ hv
    obtain ⟨⟨o2, vs, _, _, _, _, _, _, _, e2, _, d2, _⟩, _⟩ := x c _ e
    rw [e1] at e2; cases e2
    rw [d1] at d2; cases d2
  refine m.else_ (fun a ha => hid_out fun z => hn a z ha) (fun R hR => ?_) ⟨m.inv.1, ?_⟩
  · obtain ⟨qs, e, z⟩ := m.tab R hR
    exact ⟨qs, C.hid e rfl, z⟩
  · obtain ⟨ps, eP, t, a⟩ := m.inv.2
    refine ⟨ps, C.hid eP rfl, t, fun pos cv hc => ?_⟩
    obtain ⟨c', P', e1, e2, ⟨qs, e3, e4⟩, e5⟩ := a pos cv hc
    exact ⟨c', P', e1, (hid_out (noC c' P' e2)).trans e2, ⟨qs, C.hid e3 rfl, e4⟩, e5⟩
theorem M.unh {cs : List Addr} (m : M (mkG ga tabs P0) ρ A H') (hn : ∀ c ∈ cs, c ∉ ρ) (hz : ∀ c ∈ cs, H' c = none) : M (mkG ga tabs P0) ρ A (unh cs H H') := by
  have out : ∀ b o, H' b = some o → b ∉ cs := fun b o e z => by rw [hz b z] at e; cases e
  refine m.else_ (fun a ha => unh_out fun z => hn a z ha) (fun R hR => ?_) ⟨m.inv.1, m.inv.2.keep fun b o e hv => ⟨fun _ => (unh_out (out b o e)).trans e, fun _ => (unh_out (out b o e)).trans e, fun _ tb => ?_⟩⟩
  · obtain ⟨qs, e, z⟩ := m.tab R hR
    exact ⟨qs, (unh_out (out R _ e)).trans e, z⟩
  · obtain ⟨rs, e1, e2⟩ := tb
    exact ⟨rs, (unh_out (out b _ e1)).trans e1, e2⟩
/-- what stands at further addresses, added to the description -/
theorem M.addR {g : Gr} {cs : List Addr} {os : List HO} (m : M g ρ A H) (hn : ∀ c ∈ cs, c ∉ ρ) (nd : cs.Nodup) (h : Paired (fun c o => H c = some o ∧ ∀ ps, o ≠ HO.tbl ps) cs os) : M g (ρ ++ cs) (A ++ os.map AO.raw) H := by
  have hl : cs.length = os.length := Paired.length h
  refine ⟨List.nodup_append.mpr ⟨m.nd, nd, fun a ha b hb e => hn b hb (e ▸ ha)⟩, by simp [m.len, hl], fun k a o e q => ?_, m.tab, fun k a P e q => ?_, m.inv⟩
  · by_cases hk : k < ρ.length
    · rw [List.getElem?_append_left hk] at e
      rw [List.getElem?_append_left (by rw [← m.len]; exact hk)] at q
      exact (m.obj k a o e q).ext ⟨cs, rfl⟩
    · rw [List.getElem?_append_right (Nat.le_of_not_lt hk)] at e
      rw [List.getElem?_append_right (by rw [← m.len]; exact Nat.le_of_not_lt hk), ← m.len, List.getElem?_map] at q
      obtain ⟨o', eo, ho, _⟩ := Paired.get2 h e
      rw [eo] at q
      cases q
      exact ho
  · by_cases hk : k < ρ.length
    · rw [List.getElem?_append_left hk] at e
      rw [List.getElem?_append_left (by rw [← m.len]; exact hk)] at q
      exact m.nt k a P e q
    · rw [List.getElem?_append_right (Nat.le_of_not_lt hk)] at e
      rw [List.getElem?_append_right (by rw [← m.len]; exact Nat.le_of_not_lt hk), ← m.len, List.getElem?_map] at q
      obtain ⟨o', eo, _, ho⟩ := Paired.get2 h e
      rw [eo] at q
      cases q
      exact absurd rfl (ho P)
end
end K33
namespace K33
open PySem PySem.Spec PyProof.Rows L2
/-! ## _law_tries: a list of pairs, a lambda and what is due -/
abbrev noArgs : Arguments := ⟨[], [], none, [], [], none, []⟩
structure LamS where
  body : Expr
  scope : Scope
  pos : Pos
  due : Str
  j : Nat
  cpos : Pos
  k : Nat
  tpos : Pos
def LamS.elt (s : LamS) : Expr := .Tuple [.Lambda noArgs s.body s.scope s.pos, .Constant (.str s.due) s.j s.cpos] s.k s.tpos
def LamS.key (s : LamS) : Nat × Nat := (s.pos.line, s.pos.col)
/-- a pair that was made: its code object, its function, the pair -/
structure Ent where
  s : LamS
  c : Addr
  f : Addr
  t : Addr
def psOf : List Ent → List Value
  | [] => []
  | d :: ds => rawInt d.s.pos.line :: rawInt d.s.pos.col :: .ref d.c :: psOf ds
def rOf : List Ent → List Addr
  | [] => []
  | d :: ds => d.c :: d.f :: d.t :: rOf ds
def aOf (q : Str) (cells : List (Str × Addr)) : Nat → List Ent → Hs
  | _, [] => []
  | n, d :: ds => .raw (LamX.CodeO d.c q) :: .raw (LamO d.f q noArgs d.s.body d.s.scope (cloFrom cells d.s.scope.names []) d.c) :: .tup [.ref (n + 1), .str d.s.due] :: aOf q cells (n + 3) ds
theorem psOf_snoc (d : Ent) : ∀ ds, psOf (ds ++ [d]) = psOf ds ++ [rawInt d.s.pos.line, rawInt d.s.pos.col, .ref d.c]
  | [] => rfl
  | e :: ds => by
    show rawInt e.s.pos.line :: rawInt e.s.pos.col :: .ref e.c :: psOf (ds ++ [d]) = _
    rw [psOf_snoc d ds]; rfl
theorem rOf_snoc (d : Ent) : ∀ ds, rOf (ds ++ [d]) = rOf ds ++ [d.c, d.f, d.t]
  | [] => rfl
  | e :: ds => by
    show e.c :: e.f :: e.t :: rOf (ds ++ [d]) = _
    rw [rOf_snoc d ds]; rfl
theorem rOf_len : ∀ ds, (rOf ds).length = 3 * ds.length
  | [] => rfl
  | e :: ds => by
    show (rOf ds).length + 3 = 3 * (ds.length + 1)
    rw [rOf_len ds]; omega
theorem aOf_len {q : Str} {cells : List (Str × Addr)} : ∀ n ds, (aOf q cells n ds).length = 3 * ds.length
  | _, [] => rfl
  | n, e :: ds => by
    show (aOf q cells (n + 3) ds).length + 3 = 3 * (ds.length + 1)
    rw [aOf_len (n + 3) ds]; omega
theorem aOf_snoc {q : Str} {cells : List (Str × Addr)} (d : Ent) : ∀ n ds, aOf q cells n (ds ++ [d]) = aOf q cells n ds ++ [.raw (LamX.CodeO d.c q), .raw (LamO d.f q noArgs d.s.body d.s.scope (cloFrom cells d.s.scope.names []) d.c), .tup [.ref (n + 3 * ds.length + 1), .str d.s.due]]
  | n, [] => rfl
  | n, e :: ds => by
    show _ :: _ :: _ :: aOf q cells (n + 3) (ds ++ [d]) = _
    rw [aOf_snoc d (n + 3) ds, show n + 3 + 3 * ds.length + 1 = n + 3 * (e :: ds).length + 1 by simp only [List.length_cons]; omega]; rfl
theorem psOf_ok : ∀ ds, TriplesOk (psOf ds)
  | [] => trivial
  | d :: ds => psOf_ok ds
theorem psOf_none {p : Pos} : ∀ {ds : List Ent}, (∀ d ∈ ds, d.s.key ≠ (p.line, p.col)) → codeAmong p (psOf ds) = none
  | [], _ => rfl
  | d :: ds, h => by
    show (if (((d.s.pos.line : Int) == (p.line : Int)) && ((d.s.pos.col : Int) == (p.col : Int))) = true then some (Value.ref d.c) else codeAmong p (psOf ds)) = none
    rw [if_neg]
    · exact psOf_none fun e he => h e (List.mem_cons_of_mem _ he)
    · intro z
      rw [Bool.and_eq_true] at z
      refine h d List.mem_cons_self ?_
      have z1 : (d.s.pos.line : Int) = (p.line : Int) := eq_of_beq z.1
      have z2 : (d.s.pos.col : Int) = (p.col : Int) := eq_of_beq z.2
      exact Prod.ext (Int.ofNat.inj z1) (Int.ofNat.inj z2)
/-- the state behind some pairs -/
structure TrSt (ga : Nat → Addr) (tabs : List Addr) (P0 P : Addr) (ρ : List Addr) (A : Hs) (q : Str) (cells : List (Str × Addr)) (ds : List Ent) (H : Hp) : Prop where
  m : M (mkG ga tabs P0) (ρ ++ rOf ds) (A ++ aOf q cells A.length ds) H
  tb : H P = some (.tbl (psOf ds).toArray)
  out : P ∉ ρ ++ rOf ds
section
variable {ga : Nat → Addr} {tabs : List Addr} {P0 P : Addr} {ρ : List Addr} {A : Hs} {q : Str} {cells : List (Str × Addr)} {ds : List Ent} {H : Hp}
theorem TrSt.step (t : TrSt ga tabs P0 P ρ A q cells ds H) (ht : P ∉ tabs) (h0 : P0 ≠ P) (s : LamS) {c f p : Addr} {H0 H1 : Hp} (e0 : H0 = upd (upd H P (.tbl ((psOf ds).toArray ++ #[rawInt s.pos.line, rawInt s.pos.col, .ref c]))) c (LamX.CodeO c q)) (hc : H c = none) (hf : H0 f = none)
    (e1 : H1 = upd H0 f (LamO f q noArgs s.body s.scope (cloFrom cells s.scope.names []) c)) (hp : H1 p = none) : TrSt ga tabs P0 P ρ A q cells (ds ++ [⟨s, c, f, p⟩]) (upd H1 p (.tup [.ref f, .str s.due])) := by
  have ePc : P ≠ c := ne_of_none t.tb hc
  have tok : TriplesOk ((psOf ds).toArray ++ #[rawInt s.pos.line, rawInt s.pos.col, .ref c]).toList := by
    have := psOf_ok (ds ++ [⟨s, c, f, p⟩])
    rw [psOf_snoc] at this
    simpa using this
  have m1 := t.m.side (ps' := (psOf ds).toArray ++ #[rawInt s.pos.line, rawInt s.pos.col, .ref c]) t.tb t.out ht h0 (by simpa using psOf_ok ds) tok
  have m2 := m1.pushR (p := c) (o := LamX.CodeO c q) (by rw [upd_ne ePc.symm]; exact hc) (LamX.codeO_ne)
  rw [← e0] at m2
  have m3 := m2.pushR (p := f) (o := LamO f q noArgs s.body s.scope (cloFrom cells s.scope.names []) c) hf (fun ps z => by unfold LamO at z; cases z)
  rw [← e1] at m3
  have lf : (ρ ++ rOf ds ++ [c] ++ [f] ++ [p])[A.length + 3 * ds.length + 1]? = some f := by
    have h1 := t.m.len
    simp only [List.length_append, aOf_len, rOf_len] at h1
    have h2 : (ρ ++ rOf ds ++ [c]).length = A.length + 3 * ds.length + 1 := by
      simp only [List.length_append, rOf_len, List.length_cons, List.length_nil]; omega
    rw [List.getElem?_append_left (by rw [List.length_append, h2]; exact Nat.lt_succ_self _), ← h2, List.getElem?_append_right (Nat.le_refl _)]
    simp
  have m4 := m3.push (p := p) (o := .tup [.ref f, .str s.due]) (ao := .tup [.ref (A.length + 3 * ds.length + 1), .str s.due]) hp rfl ⟨_, .cons ⟨f, rfl, lf⟩ (.cons rfl .nil), upd_same⟩
  have HP : H1 P = some (.tbl ((psOf ds).toArray ++ #[rawInt s.pos.line, rawInt s.pos.col, .ref c])) := by
    have : H0 P = some (.tbl ((psOf ds).toArray ++ #[rawInt s.pos.line, rawInt s.pos.col, .ref c])) := by rw [e0, upd_ne ePc, upd_same]
    rw [e1, upd_ne (ne_of_none this hf)]; exact this
  have H0P : H0 P = some (.tbl ((psOf ds).toArray ++ #[rawInt s.pos.line, rawInt s.pos.col, .ref c])) := by rw [e0, upd_ne ePc, upd_same]
  refine ⟨?_, ?_, fun z => ?_⟩
  · rw [rOf_snoc, aOf_snoc]
    simpa [List.append_assoc] using m4
  · rw [upd_ne (ne_of_none HP hp), HP, psOf_snoc]
    simp
  · rw [rOf_snoc, ← List.append_assoc] at z
    rcases List.mem_append.mp z with z | z
    · exact t.out z
    · simp only [List.mem_cons, List.not_mem_nil, or_false] at z
      rcases z with z | z | z
      · exact ePc z
      · exact ne_of_none H0P hf z
      · exact ne_of_none HP hp z
end
section
variable {X : Cx} {P c : Addr}
/-- what the making of a lambda wants -/
def tLamN (P : Addr) (q : Str) (cells : List (Str × Addr)) (s : LamS) : TE := fun σ H Q => ∃ ps : Array Value, H P = some (.tbl ps) ∧ TriplesOk ps.toList ∧ codeAmong s.pos ps.toList = none ∧
  ∀ (f c' : Addr) (H0 : Hp), H0 = upd (upd H P (.tbl (ps ++ #[rawInt s.pos.line, rawInt s.pos.col, .ref c']))) c' (LamX.CodeO c' q) → H c' = none → H0 f = none → Q (.ref f) (upd H0 f (LamO f q noArgs s.body s.scope (cloFrom cells s.scope.names []) c'))
theorem pe_lamN {s : LamS} (TB : GxR.TabB X.base X.mg c P) (hcode : X.env.code = .ref c) (hfree : ∀ y ∈ s.scope.names, y.2 = .free → ∃ c, X.env.cells.lookup y.1 = some c) : PE X (.Lambda noArgs s.body s.scope s.pos) (tLamN P (X.env.qual ++ "<lambda>") X.env.cells s) := by
  refine ⟨fun pins sh σ H Q I h => ?_⟩
  obtain ⟨ps, hP, ht, hnf, h⟩ := h
  exact lam_new I TB hcode hP ht hnf rfl hfree fun f c' H0 s' e hc hf I' => ⟨.ref f, _, I', rfl, h f c' H0 e hc hf⟩
theorem star_cons {e : Expr} {es : List Expr} {env : Env} (h : ∀ x p, e ≠ .Starred x p) : starEach (e :: es) env = (false, eval e env) :: starEach es env := by
  cases e <;> first
    | rfl
    | exact absurd rfl (h _ _)
def tTr (ga : Nat → Addr) (tabs : List Addr) (P0 P : Addr) (q : Str) (cells : List (Str × Addr)) (l : List LamS) : TA := fun σ H Q => ∃ (ρ : List Addr) (A : Hs) (ds : List Ent), TrSt ga tabs P0 P ρ A q cells ds H ∧ (∀ s ∈ l, ∀ d ∈ ds, d.s.key ≠ s.key) ∧
  ∀ (ds' : List Ent) (H' : Hp), ds'.map (·.s) = l → TrSt ga tabs P0 P ρ A q cells (ds ++ ds') H' → Q (ds'.map fun d => .ref d.t) H'
theorem pa_tr {ga : Nat → Addr} {tabs : List Addr} {P0 : Addr} (TB : GxR.TabB X.base X.mg c P) (hcode : X.env.code = .ref c) (ht : P ∉ tabs) (h0 : P0 ≠ P) : ∀ (l : List LamS), (∀ s ∈ l, ∀ y ∈ s.scope.names, y.2 = .free → ∃ c, X.env.cells.lookup y.1 = some c) → (l.map LamS.key).Nodup → PA X (l.map LamS.elt) (tTr ga tabs P0 P (X.env.qual ++ "<lambda>") X.env.cells l)
  | [], _, _ => PA.imp pa_nil fun σ H Q ⟨ρ, A, ds, st, _, h⟩ => h [] H rfl (by rw [List.append_nil]; exact st)
  | s :: l, hfree, nd => by
    have nd' := List.nodup_cons.mp nd
    have ih := pa_tr (ga := ga) TB hcode ht h0 l (fun s' hs => hfree s' (List.mem_cons_of_mem _ hs)) nd'.2
    refine PA.imp (pa_cons (pe_tup (x1 := s.k) (pos := s.tpos) (pa_cons (pe_lamN TB hcode (hfree s List.mem_cons_self)) (pa_cons (pe_str (x := s.due) (j := s.j) (pos := s.cpos)) pa_nil))) ih) fun σ H Q ⟨ρ, A, ds, st, fr, h⟩ => ?_
    refine ⟨_, st.tb, by simpa using psOf_ok ds, ?_, fun f c' H0 e0 hc hf => ⟨by show 2 ≤ sizeLine; decide, fun p hp => ?_⟩⟩
    · exact psOf_none (p := s.pos) (ds := ds) (fun d hd => fr s List.mem_cons_self d hd)
    · have st' := st.step ht h0 s e0 hc hf rfl hp
      refine ⟨ρ, A, ds ++ [⟨s, c', f, p⟩], st', fun s' hs' d hd => ?_, fun ds' H' e st2 => ?_⟩
      · rcases List.mem_append.mp hd with hd | hd
        · exact fr s' (List.mem_cons_of_mem _ hs') d hd
        · rw [List.mem_singleton.mp hd]
          exact fun z => nd'.1 (List.mem_map.mpr ⟨s', hs', z.symm⟩)
      · exact h (⟨s, c', f, p⟩ :: ds') H' (by rw [List.map_cons, e]) (by rw [List.append_assoc] at st2; exact st2)
end
end K33
namespace K33
open PySem PySem.Spec PyProof.Rows L2
/-! ## a def that hands back a value and leaves its cells behind, tracked -/
def addC : List (Addr × V) → Hp → Hp
  | [], H => H
  | p :: l, H => addC l (upd H p.1 (CelO p.1 p.2))
section
variable {P : Program} {w : World} {H : Hp} {h : Heap}
theorem addC_out : ∀ {l : List (Addr × V)} {H : Hp} {b : Addr}, b ∉ l.map (·.1) → addC l H b = H b
  | [], _, _, _ => rfl
  | p :: l, H, b, hb => by
    rw [List.map_cons, List.mem_cons, not_or] at hb
    exact (addC_out hb.2).trans (upd_ne hb.1)
theorem addC_at : ∀ {l : List (Addr × V)} {H : Hp}, (l.map (·.1)).Nodup → ∀ p ∈ l, addC l H p.1 = some (CelO p.1 p.2)
  | q :: l, H, nd, p, hp => by
    rw [List.map_cons, List.nodup_cons] at nd
    rcases List.mem_cons.mp hp with rfl | hp
    · exact (addC_out nd.1).trans upd_same
    · exact addC_at nd.2 p hp
theorem addC_hok : ∀ {l : List (Addr × V)} {H : Hp}, (l.map (·.1)).Nodup → (∀ p ∈ l, H p.1 = none ∧ ∃ u, RelV p.2 u ∧ h.IsCell p.1 (some u)) → HOk P w H h → HOk P w (addC l H) h
  | [], _, _, _, x => x
  | q :: l, H, nd, hc, x => by
    rw [List.map_cons, List.nodup_cons] at nd
    obtain ⟨hn, u, ru, ic⟩ := hc q List.mem_cons_self
    show HOk P w (addC l (upd H q.1 (CelO q.1 q.2))) h
    refine addC_hok nd.2 (fun p hp => ?_) fun b o e => ?_
    · obtain ⟨h1, h2⟩ := hc p (List.mem_cons_of_mem _ hp)
      exact ⟨by rw [upd_ne fun z => nd.1 (by rw [← z]; exact List.mem_map.mpr ⟨p, hp, rfl⟩)]; exact h1, h2⟩
    · by_cases hb : b = q.1
      · subst hb
        rw [upd_same] at e; cases e
        refine ⟨⟨u, ru, ic⟩, ?_, fun h1 h2 ⟨u, r, o, e, d⟩ st => ⟨u, r, o, st _ e, d⟩⟩
        obtain ⟨o, e, _⟩ := ic
        exact ⟨o, e⟩
      · rw [upd_ne hb] at e
        exact (x b o e).stay (fun _ _ _ q => q) (fun d z => by rw [upd_ne (ne_of_none z hn)]; exact z) fun d xs z => by rw [upd_ne (ne_of_none z hn)]; exact z
end
section
variable {P : Program} {w : World} {K : PySem.W.Frag} {mg : Str → Option Value} {base : Heap}
/-- the cells of a def entered at the size n -/
theorem fn_cells {CX : CXT} {k : Nat} {f : Addr} {name qual : Str} {params : Arguments} {e : Expr} {rp : Pos} {scope : Scope} {dV kV doc pm cdv ct oc : Value} {an od : Option Addr}
    {osl : Array (Option Value)} {ps : List Str} {sp : Sp} (lk : K.lookup f = some ⟨oc, od, .func (PySem.W.fnOf name qual params [.Return (some e) rp] scope dV kV doc pm an cdv ct), osl⟩) (hcd : PySem.W.codeIn K cdv qual = true) (S : FnScope ps ps scope)
    (len : ∀ vs H Q E, sp vs H Q E → vs.length = ps.length)
    (hbody : ∀ (A : Around) (outer : List Env) (s : Shared) (H : Hp) (vs : List V) (Q : VK) (E : XK), Room k (A.deeper (envOfC qual scope s.heap.objs.size f cdv)) → sp vs H Q E →
      ∃ (t : TE) (l : List (Addr × V)), PE (cxOf CX P w K mg base ps qual scope f cdv A outer s H E) e t ∧ (l.map (·.1)).Nodup ∧
        (∀ p ∈ l, ∃ (x : Str) (i : Nat), ps[i]? = some x ∧ vs[i]? = some p.2 ∧ scope.names.lookup x = some .cell ∧ (cellsFrom (s.heap.objs.size + 1) scope.names []).lookup x = some p.1) ∧
        t (L2.start ps vs) H fun v H' => (∀ p ∈ l, H' p.1 = none) → Q v (addC l H')) :
    FnOk P w K mg base CX (k + 1) f (PySem.W.fnOf name qual params [.Return (some e) rp] scope dV kV doc pm an cdv ct) ps sp := by
  refine ⟨len, fun A outer s H args us vs Q E hr e0 hb r hsp => ?_⟩
  have hl := len _ _ _ _ hsp
  have KX : K.In s.heap := e0.mod.kin.keeps fun b o e => (e0.bs b o e).1
  have lim : s.heap.NoLimit := e0.mod.nolimit.keeps fun b o e => (e0.bs b o e).1
  have hkind : ∀ y ∈ ps.zip us, scope.names.lookup y.1 = some .local ∨ (scope.names.lookup y.1 = some .cell ∧ ((cellsFrom (s.heap.objs.size + 1) scope.names []).lookup y.1).isSome = true) := fun ⟨n, v⟩ hy => by
    rcases S.par n (List.of_mem_zip hy).1 with q | q
    · exact .inl q
    · exact .inr ⟨q, PySem.W.cellsFrom_some _ _ _ (.inl q)⟩
  refine codeAny_call_function hr.depth (KX _ _ lk) rfl S.co S.gen rfl (PySem.W.codeRec_of KX hcd) (hb _ _ _ _ ?_)
  refine wpAny_newFunctionEnv_cells S.kind hkind fun env he s1 x => ?_
  subst he
  refine ⟨lim.keeps x.toInCall.keep, codeAny_func ?_⟩
  obtain ⟨t, l, ht, nd, hcl, hq⟩ := hbody A outer s H vs Q E (hr.deeper _) hsp
  have I : Inv (cxOf CX P w K mg base ps qual scope f cdv A outer s H E) [] (L2.start ps vs) H s1 := inv_start S hr.hd e0 hl r x
  refine wpAny_execs_cons (thn (wpAny_Return_some (Q := fun fl s' => ∃ u, fl = .ret u ∧ EP (cxOf CX P w K mg base ps qual scope f cdv A outer s H E) [] (L2.start ps vs) (fun v H' => (∀ p ∈ l, H' p.1 = none) → Q v (addC l H')) u s') (wpAny_mono (ht.run [] s1 _ H _ I hq) (fun u s' hs => ⟨u, rfl, hs⟩) fun e s' hs => hs)) fun fl s' hs => ?_)
  obtain ⟨u, rfl, v, H', J, rv, q⟩ := hs
  have cl : ∀ p ∈ l, H' p.1 = none ∧ s.heap.objs.size ≤ p.1 ∧ ∃ u, RelV p.2 u ∧ s'.heap.IsCell p.1 (some u) := fun p hp => by
    obtain ⟨y, i, e1, e2, e3, e4⟩ := hcl p hp
    refine ⟨J.freeC y p.1 e4, J.ok.cab y p.1 rfl e4, ?_⟩
    obtain ⟨m, hn, lo⟩ := J.loc
    have e5 : (L2.start ps vs)[i]? = some (some p.2) := by
      unfold L2.start
      rw [hl, Nat.sub_self]
      simp [e2]
    obtain ⟨u, ru, look⟩ := lo i y p.2 e1 e5 (.inr (.inl e3))
    rcases look with ⟨z, _⟩ | ⟨_, c, ec, z⟩
    · have z : scope.names.lookup y = some .local := z
      rw [e3] at z; cases z
    · have ec : (cellsFrom (s.heap.objs.size + 1) scope.names []).lookup y = some c := ec
      rw [e4] at ec; cases ec
      exact ⟨u, ru, z⟩
  have nn : ∀ p ∈ l, H' p.1 = none := fun p hp => (cl p hp).1
  have out : ∀ b o, H' b = some o → b ∉ l.map (·.1) := fun b o e z => by
    obtain ⟨p, hp, rfl⟩ := List.mem_map.mp z
    rw [nn p hp] at e; cases e
  refine ⟨v, addC l H', J.os, J.bare, ⟨J.base.keep, J.base.slot, fun b o e n hx => ?_, J.base.there, fun b xs e => ?_, fun b o xs e => ?_, fun b qs e => ?_⟩, addC_hok nd (fun p hp => ⟨nn p hp, (cl p hp).2.2⟩) J.hok, rv, q nn⟩
  · rw [addC_out fun z => by
      obtain ⟨p, hp, rfl⟩ := List.mem_map.mp z
      exact absurd (Nat.lt_of_lt_of_le (Heap.lt_size (show s.heap.get? p.1 = some o from e)) (cl p hp).2.1) (Nat.lt_irrefl _)]
    exact J.base.free b o e n hx
  · have z := J.base.tups b xs e
    rw [addC_out (out _ _ z)]; exact z
  · have z := J.base.frzs b o xs e
    rw [addC_out (out _ _ z)]; exact z
  · obtain ⟨more, z⟩ := J.base.tbls b qs e
    exact ⟨more, by rw [addC_out (out _ _ z)]; exact z⟩
/-! ## this program's -/
def specOf : Expr → Option LamS
  | .Tuple [.Lambda ⟨[], [], none, [], [], none, []⟩ b sc p, .Constant (.str d) j cp] k tp => some ⟨b, sc, p, d, j, cp, k, tp⟩
  | _ => none
def eltsOf : List Stmt → List Expr
  | [.Return (some (.List es _)) _] => es
  | _ => []
def lamL : List LamS := (eltsOf d_x_law_tries.body).filterMap specOf
def posL : List Stmt → Pos × Pos
  | [.Return (some (.List _ p)) q] => (p, q)
  | _ => (⟨0, 0, 0, 0⟩, ⟨0, 0, 0, 0⟩)
theorem body_eq : d_x_law_tries.body = [.Return (some (.List (lamL.map LamS.elt) (posL d_x_law_tries.body).1)) (posL d_x_law_tries.body).2] := by kernel_rfl
def qT : Str := "_law_tries.<locals>.<lambda>"
theorem keys_nd : (lamL.map LamS.key).Nodup := by decide +kernel
def isFree : NameKind → Bool
  | .free => true
  | _ => false
def isOwn : NameKind → Bool
  | .local => true
  | .cell => true
  | _ => false
def isFun : ScopeKind → Bool
  | .function => true
  | _ => false
def nmsT : List Str := ["_law_market", "_law_fair", "_law_book"]
/-- a lambda of the list: its names -/
def lamB (s : LamS) : Bool := isFun s.scope.kind && !s.scope.isCoroutine && !s.scope.isGenerator && s.scope.names.all fun y => !isOwn y.2 && (!isFree y.2 || nmsT.contains y.1)
theorem lamB_all : lamL.all lamB = true := by decide +kernel
theorem lamB_n {s : LamS} (h : lamB s = true) : LamN s.scope ∧ ∀ y ∈ s.scope.names, y.2 = .free → y.1 ∈ nmsT := by
  unfold lamB at h
  simp only [Bool.and_eq_true, Bool.not_eq_true', List.all_eq_true, Bool.or_eq_true] at h
  obtain ⟨⟨⟨h1, h2⟩, h3⟩, h4⟩ := h
  refine ⟨⟨?_, h2, h3, fun y hy => ⟨fun z => ?_, fun z => ?_⟩⟩, fun y hy z => ?_⟩
  · cases hk : s.scope.kind <;> rw [hk] at h1 <;> first | rfl | cases h1
  · have := (h4 y hy).1
    rw [z] at this; cases this
  · have := (h4 y hy).1
    rw [z] at this; cases this
  · rcases (h4 y hy).2 with q | q
    · rw [z] at q; cases q
    · exact List.contains_iff_mem.mp q
def cellsOf (n : Nat) : List (Str × Addr) := cellsFrom (n + 1) d_x_law_tries.scope.names []
theorem cellsOf_eq (n : Nat) : cellsOf n = ([(("_law_book" : Str), n + 1 + 1 + 1), (("_law_fair" : Str), n + 1 + 1), (("_law_market" : Str), n + 1)] : List (Str × Addr)) := by kernel_rfl
theorem scope_names : d_x_law_tries.scope.names = ([(("_law_market" : Str), NameKind.cell), (("_law_fair" : Str), NameKind.cell), (("_law_book" : Str), NameKind.cell)] : List (Str × NameKind)) := by kernel_rfl
def cellL (n : Nat) (v0 v1 v2 : V) : List (Addr × V) := [(n + 1, v0), (n + 1 + 1, v1), (n + 1 + 1 + 1, v2)]
end
end K33
namespace K33
open PySem PySem.Spec PyProof.Rows L2
/-- the list's items, by number -/
def lOf : Nat → List Ent → List W
  | _, [] => []
  | n, d :: ds => .ref (n + 2) :: lOf (n + 3) ds
theorem lOf_rv {l : List Addr} : ∀ {ds : List Ent} {m : List Addr}, RVs (m ++ rOf ds ++ l) (lOf m.length ds) (ds.map fun d => .ref d.t)
  | [], _ => .nil
  | d :: ds, m => by
    refine .cons ⟨d.t, rfl, ?_⟩ ?_
    · rw [List.append_assoc, List.getElem?_append_right (by omega)]
      show ((d.c :: d.f :: d.t :: rOf ds) ++ l)[m.length + 2 - m.length]? = some d.t
      rw [show m.length + 2 - m.length = 2 by omega]; rfl
    · have z := lOf_rv (l := l) (ds := ds) (m := m ++ [d.c, d.f, d.t])
      have e1 : (m ++ [d.c, d.f, d.t]).length = m.length + 3 := by simp
      rw [e1] at z
      have e2 : m ++ [d.c, d.f, d.t] ++ rOf ds ++ l = m ++ rOf (d :: ds) ++ l := by
        show _ = m ++ (d.c :: d.f :: d.t :: rOf ds) ++ l
        simp
      rw [e2] at z
      exact z
theorem M.addC {g : Gr} {ρ : List Addr} {A : Hs} : ∀ {l : List (Addr × V)} {H : Hp}, (l.map (·.1)).Nodup → (∀ e ∈ l, H e.1 = none) → M g ρ A H → M g ρ A (addC l H)
  | [], _, _, _, m => m
  | q :: l, H, nd, h, m => by
    rw [List.map_cons, List.nodup_cons] at nd
    show M g ρ A (K33.addC l (upd H q.1 (CelO q.1 q.2)))
    exact M.addC nd.2 (fun e he => by
      rw [upd_ne fun z => nd.1 (by rw [← z]; exact List.mem_map.mpr ⟨e, he, rfl⟩)]
      exact h e (List.mem_cons_of_mem _ he)) (m.aside (h q List.mem_cons_self))
theorem cellsOf_m (n : Nat) : (cellsOf n).lookup ("_law_market" : Str) = some (n + 1) := by kernel_rfl
theorem cellsOf_f (n : Nat) : (cellsOf n).lookup ("_law_fair" : Str) = some (n + 1 + 1) := by kernel_rfl
theorem cellsOf_b (n : Nat) : (cellsOf n).lookup ("_law_book" : Str) = some (n + 1 + 1 + 1) := by kernel_rfl
theorem lamL_len : lamL.length = 36 := by decide +kernel
theorem cellL_nd (n : Nat) (v0 v1 v2 : V) : ((cellL n v0 v1 v2).map (·.1)).Nodup := by simp [cellL]
def tabT (K : PySem.W.Frag) : Addr := (He.cT K triesAt).2
theorem qT_eq : d_x_law_tries.qual ++ ".<locals>." ++ "<lambda>" = qT := by kernel_rfl
/-- what _law_tries promises -/
def spTries (K : PySem.W.Frag) : Sp := fun vs H Q _ => ∃ (ρ : List Addr) (A : Hs) (v0 v1 v2 : V), vs = [v0, v1, v2] ∧ M (G K) ρ A H ∧ H (tabT K) = some (.tbl #[]) ∧ tabT K ∉ ρ ∧ tabT K ∉ tbs K ∧ (He.cT K rowsAt).2 ≠ tabT K ∧
  ∀ (n : Nat) (ds : List Ent) (p : Addr) (H' : Hp), ds.map (·.s) = lamL → M (G K) (ρ ++ rOf ds ++ [p]) (A ++ aOf qT (cellsOf n) A.length ds ++ [.lst (lOf A.length ds)]) H' → (∀ e ∈ cellL n v0 v1 v2, e.1 ∉ ρ ++ rOf ds ++ [p] ∧ H' e.1 = some (CelO e.1 e.2)) → Q (.ref p) H'
theorem sc_law_tries : FnScope nmsT nmsT d_x_law_tries.scope := ⟨rfl, rfl, rfl, by decide +kernel, rfl, by decide +kernel, by decide +kernel⟩
section
variable {P : Program} {w : World} {K : PySem.W.Frag} {mg : Str → Option Value} {base : Heap}
theorem ok_law_tries (T : Gd K mg base) : FnS P w K mg base d_x_law_tries.at_ 1 nmsT (spTries K) := by
  obtain ⟨fd, F⟩ := T.says.def_ 103 (d := d_x_law_tries) (by rfl)
  have hB : Binds K fd nmsT [] := F.bindsN fun _ _ _ _ _ _ us hl => match us, hl with | [_, _, _], _ => rfl
  obtain ⟨oc, od, dV, kV, doc, pm, an, cdv, ct, osl, rfl, lk, hcd, _, _⟩ := F.ex
  obtain ⟨c, rfl⟩ := He.codeIn_ref hcd
  have ec : c = (He.cT K d_x_law_tries.at_).1 := (He.codeOf_eq lk rfl).symm
  refine ⟨⟨PySem.W.fnOf d_x_law_tries.name d_x_law_tries.qual d_x_law_tries.params d_x_law_tries.body d_x_law_tries.scope dV kV doc pm an (.ref c) ct, ?_, hB⟩, F.kp⟩
  rw [body_eq] at lk ⊢
  refine fn_cells lk hcd sc_law_tries (fun vs H Q E h => by obtain ⟨_, _, _, _, _, rfl, _⟩ := h; rfl) fun A outer s H vs Q E hr hsp => ?_
  obtain ⟨ρ, A0, v0, v1, v2, rfl, m, hT, out, nt, n0, hQ⟩ := hsp
  have eq' : (cxOf (L2.CX P w) P w K mg base nmsT d_x_law_tries.qual d_x_law_tries.scope (He.fAd K d_x_law_tries.at_) (.ref c) A outer s H E).env.qual ++ "<lambda>" = qT := qT_eq
  have ecl : (cxOf (L2.CX P w) P w K mg base nmsT d_x_law_tries.qual d_x_law_tries.scope (He.fAd K d_x_law_tries.at_) (.ref c) A outer s H E).env.cells = cellsOf s.heap.objs.size := rfl
  have TB : GxR.TabB base mg c (tabT K) := by
    have z := T.tb triesAt (List.mem_of_getElem? (i := 24) (by rfl))
    rw [ec]; exact z
  have pa := pa_tr (X := cxOf (L2.CX P w) P w K mg base nmsT d_x_law_tries.qual d_x_law_tries.scope (He.fAd K d_x_law_tries.at_) (.ref c) A outer s H E) (ga := fun c => He.ga K (cnm c)) TB rfl nt n0 lamL (fun s' hs y hy e => by
    rw [ecl]
    have := (lamB_n (List.all_eq_true.mp lamB_all s' hs)).2 y hy e
    simp only [nmsT, List.mem_cons, List.not_mem_nil, or_false] at this
    rcases this with z | z | z <;> rw [z]
    · exact ⟨_, cellsOf_m _⟩
    · exact ⟨_, cellsOf_f _⟩
    · exact ⟨_, cellsOf_b _⟩) keys_nd
  rw [eq', ecl] at pa
  refine ⟨_, cellL s.heap.objs.size v0 v1 v2, pe_lst pa, cellL_nd _ _ _ _, fun p hp => ?_, ?_⟩
  · simp only [cellL, List.mem_cons, List.not_mem_nil, or_false] at hp
    rcases hp with rfl | rfl | rfl
    · exact ⟨"_law_market", 0, rfl, rfl, by kernel_rfl, cellsOf_m _⟩
    · exact ⟨"_law_fair", 1, rfl, rfl, by kernel_rfl, cellsOf_f _⟩
    · exact ⟨"_law_book", 2, rfl, rfl, by kernel_rfl, cellsOf_b _⟩
  · refine ⟨ρ, A0, [], ⟨by show M _ (ρ ++ []) (A0 ++ []) H; rw [List.append_nil, List.append_nil]; exact m, hT, by show tabT K ∉ ρ ++ []; rw [List.append_nil]; exact out⟩, fun _ _ d hd => (by cases hd), fun ds H' e st => ⟨?_, fun p hp hnone => ?_⟩⟩
    · have := congrArg List.length e
      rw [List.length_map, lamL_len] at this
      rw [List.length_map, this]
      show 36 ≤ sizeLine
      decide
    · have st := st.m
      rw [List.nil_append] at st
      have mp := st.push (p := p) (o := .lst (ds.map fun d => .ref d.t)) (ao := .lst (lOf A0.length ds)) hp rfl ⟨_, by rw [← m.len]; exact lOf_rv, upd_same⟩
      refine hQ s.heap.objs.size ds p _ e (mp.addC (cellL_nd _ _ _ _) hnone) fun e he => ⟨fun z => ?_, addC_at (cellL_nd _ _ _ _) e he⟩
      exact mp.new_nin (hnone e he) z
end
end K33
namespace K33
open PySem PySem.Spec PyProof.Rows L2
/-! ## the lambdas' bodies -/
def lamAt (i : Nat) : LamS := lamL.getD i ⟨.Constant .none 0 ⟨0, 0, 0, 0⟩, ⟨.function, [], false, false, []⟩, ⟨0, 0, 0, 0⟩, "", 0, ⟨0, 0, 0, 0⟩, 0, ⟨0, 0, 0, 0⟩⟩
def BodyOk (P : Program) (w : World) (K : PySem.W.Frag) (mg : Str → Option Value) (base : Heap) (l : LamS) (t : ET) : Prop := ∀ (q : Str) (f c' : Addr) (cl : List (Str × Addr)) (A : Around) (outer : List Env) (s : Shared) (H : Hp) (E : XK), Room 8 (lamC P w K mg base nmsT q l.scope f c' cl A outer s H E).A →
  Passes (L2.CX P w) (lamC P w K mg base nmsT q l.scope f c' cl A outer s H E) E → PE (lamC P w K mg base nmsT q l.scope f c' cl A outer s H E) l.body (rE (G K) E t)
end K33
namespace K33
open PySem PySem.Spec PyProof.Rows L2
theorem b_0 {P : Program} {w : World} {K : PySem.W.Frag} {mg : Str → Option Value} {base : Heap} (T : Gd K mg base) : BodyOk P w K mg base (lamAt 0) t_0 := fun q f c' cl A outer s H E hr hx => (w_call (ok_check_list T) (rm hr) (glk (by kernel_rfl)) (by exact T.glo 7) hx (d_cons (d_tup (d_cons d_int (d_cons d_int d_nil))) (d_cons d_int d_nil)))
theorem b_1 {P : Program} {w : World} {K : PySem.W.Frag} {mg : Str → Option Value} {base : Heap} (T : Gd K mg base) : BodyOk P w K mg base (lamAt 1) t_1 := fun q f c' cl A outer s H E hr hx => (w_call (ok_broken T) (rm hr) (glk (by kernel_rfl)) (by exact T.glo 160) hx (d_cons (d_lst (d_cons (d_tup (d_cons d_int d_nil)) d_nil)) (d_cons (d_lst d_nil) d_nil)))
theorem b_2 {P : Program} {w : World} {K : PySem.W.Frag} {mg : Str → Option Value} {base : Heap} (T : Gd K mg base) : BodyOk P w K mg base (lamAt 2) t_2 := fun q f c' cl A outer s H E hr hx => (w_call (ok_all_lists T) (rm hr) (glk (by kernel_rfl)) (by exact T.glo 161) hx (d_cons d_int d_nil))
theorem b_3 {P : Program} {w : World} {K : PySem.W.Frag} {mg : Str → Option Value} {base : Heap} (T : Gd K mg base) : BodyOk P w K mg base (lamAt 3) t_3 := fun q f c' cl A outer s H E hr hx => (w_make (T.mkr 162) (ok_Market_init T) (rm hr) (glk (by kernel_rfl)) (by exact T.glo 163) hx (d_cons (d_lst (d_cons (d_tup d_nil) d_nil)) (d_cons (d_lst (d_cons (d_tup d_nil) d_nil)) (d_cons (d_lst d_nil) d_nil))))
theorem b_4 {P : Program} {w : World} {K : PySem.W.Frag} {mg : Str → Option Value} {base : Heap} (T : Gd K mg base) : BodyOk P w K mg base (lamAt 4) t_4 := fun q f c' cl A outer s H E hr hx => (w_call (ok_check_match T) (rm hr) (glk (by kernel_rfl)) (by exact T.glo 26) hx (d_cons dv (d_cons (d_tup (d_cons d_int d_nil)) d_nil)))
theorem b_5 {P : Program} {w : World} {K : PySem.W.Frag} {mg : Str → Option Value} {base : Heap} (T : Gd K mg base) : BodyOk P w K mg base (lamAt 5) t_5 := fun q f c' cl A outer s H E hr hx => (w_call (ok_check_match T) (rm hr) (glk (by kernel_rfl)) (by exact T.glo 26) hx (d_cons dv (d_cons (d_tup (d_cons d_int (d_cons d_int d_nil))) d_nil)))
end K33
namespace K33
open PySem PySem.Spec PyProof.Rows L2
theorem b_6 {P : Program} {w : World} {K : PySem.W.Frag} {mg : Str → Option Value} {base : Heap} (T : Gd K mg base) : BodyOk P w K mg base (lamAt 6) t_6 := fun q f c' cl A outer s H E hr hx => (w_call (ok_stable_paper T) (rm hr) (glk (by kernel_rfl)) (by exact T.glo 164) hx (d_cons dv (d_cons (d_tup (d_cons d_non (d_cons d_non d_nil))) d_nil)))
theorem b_7 {P : Program} {w : World} {K : PySem.W.Frag} {mg : Str → Option Value} {base : Heap} (T : Gd K mg base) : BodyOk P w K mg base (lamAt 7) t_7 := fun q f c' cl A outer s H E hr hx => (w_call (ok_check_best T) (rm hr) (glk (by kernel_rfl)) (by exact T.glo 165) hx (d_cons dv (d_cons (d_tup (d_cons d_non (d_cons d_non d_nil))) (d_cons (d_tup d_nil) d_nil))))
theorem b_8 {P : Program} {w : World} {K : PySem.W.Frag} {mg : Str → Option Value} {base : Heap} (T : Gd K mg base) : BodyOk P w K mg base (lamAt 8) t_8 := fun q f c' cl A outer s H E hr hx => (w_call (ok_better_of T) (rm hr) (glk (by kernel_rfl)) (by exact T.glo 166) hx (d_cons dv (d_cons (d_tup (d_cons d_non (d_cons d_non d_nil))) (d_cons (d_tup (d_cons d_int (d_cons d_int d_nil))) d_nil))))
theorem b_9 {P : Program} {w : World} {K : PySem.W.Frag} {mg : Str → Option Value} {base : Heap} (T : Gd K mg base) : BodyOk P w K mg base (lamAt 9) t_9 := fun q f c' cl A outer s H E hr hx => (w_call (ok_lists_of_lot T) (rm hr) (glk (by kernel_rfl)) (by exact T.glo 167) hx (d_cons dv (d_cons (d_tup (d_cons d_int (d_cons d_int (d_cons d_int d_nil)))) d_nil)))
theorem b_10 {P : Program} {w : World} {K : PySem.W.Frag} {mg : Str → Option Value} {base : Heap} (T : Gd K mg base) : BodyOk P w K mg base (lamAt 10) t_10 := fun q f c' cl A outer s H E hr hx => (w_call (ok_check_none T) (rm hr) (glk (by kernel_rfl)) (by exact T.glo 170) hx (d_cons (w_make (T.mkr 168) (ok_Tied_init T) (rm hr) (glk (by kernel_rfl)) (by exact T.glo 169) hx (d_cons (d_lst (d_cons (d_tup (d_cons d_int d_nil)) d_nil)) (d_cons (d_lst (d_cons (d_lst (d_cons (d_tup (d_cons d_int d_nil)) d_nil)) d_nil)) d_nil))) (d_cons d_int d_nil)))
theorem b_11 {P : Program} {w : World} {K : PySem.W.Frag} {mg : Str → Option Value} {base : Heap} (T : Gd K mg base) : BodyOk P w K mg base (lamAt 11) t_11 := fun q f c' cl A outer s H E hr hx => (w_call (ok_check_pairs T) (rm hr) (glk (by kernel_rfl)) (by exact T.glo 173) hx (d_cons (w_make (T.mkr 171) (ok_Links_init T) (rm hr) (glk (by kernel_rfl)) (by exact T.glo 172) hx (d_cons (d_lst (d_cons (d_lst (d_cons d_int d_nil)) d_nil)) (d_cons d_int d_nil))) (d_cons (d_tup (d_cons d_non d_nil)) (d_cons (d_tup (d_cons (d_tup d_nil) (d_cons (d_tup d_nil) d_nil))) d_nil))))
end K33
namespace K33
open PySem PySem.Spec PyProof.Rows L2
theorem b_12 {P : Program} {w : World} {K : PySem.W.Frag} {mg : Str → Option Value} {base : Heap} (T : Gd K mg base) : BodyOk P w K mg base (lamAt 12) t_12 := fun q f c' cl A outer s H E hr hx => (w_call (ok_check_short T) (rm hr) (glk (by kernel_rfl)) (by exact T.glo 174) hx (d_cons (w_make (T.mkr 171) (ok_Links_init T) (rm hr) (glk (by kernel_rfl)) (by exact T.glo 172) hx (d_cons (d_lst (d_cons (d_lst (d_cons d_int d_nil)) d_nil)) (d_cons d_int d_nil))) (d_cons (d_tup (d_cons d_int d_nil)) d_nil)))
theorem b_13 {P : Program} {w : World} {K : PySem.W.Frag} {mg : Str → Option Value} {base : Heap} (T : Gd K mg base) : BodyOk P w K mg base (lamAt 13) t_13 := fun q f c' cl A outer s H E hr hx => (w_call (ok_check_worth T) (rm hr) (glk (by kernel_rfl)) (by exact T.glo 175) hx (d_cons (d_lst (d_cons (d_tup (d_cons d_int d_nil)) d_nil)) (d_cons (d_tup (d_cons d_int d_nil)) (d_cons (d_tup (d_cons d_int d_nil)) (d_cons (d_tup (d_cons d_int d_nil)) d_nil)))))
theorem b_14 {P : Program} {w : World} {K : PySem.W.Frag} {mg : Str → Option Value} {base : Heap} (T : Gd K mg base) : BodyOk P w K mg base (lamAt 14) t_14 := fun q f c' cl A outer s H E hr hx => (w_call (ok_best_pairs T) (rm hr) (glk (by kernel_rfl)) (by exact T.glo 176) hx (d_cons (d_lst (d_cons (d_tup (d_cons d_int d_nil)) (d_cons (d_tup (d_cons d_int (d_cons d_int d_nil))) d_nil))) d_nil))
theorem b_15 {P : Program} {w : World} {K : PySem.W.Frag} {mg : Str → Option Value} {base : Heap} (T : Gd K mg base) : BodyOk P w K mg base (lamAt 15) t_15 := fun q f c' cl A outer s H E hr hx => (w_call (ok_check_mates T) (rm hr) (glk (by kernel_rfl)) (by exact T.glo 179) hx (d_cons (w_make (T.mkr 177) (ok_Friends_init T) (rm hr) (glk (by kernel_rfl)) (by exact T.glo 178) hx (d_cons d_int (d_cons (d_lst (d_cons (d_tup (d_cons d_int (d_cons d_int d_nil))) d_nil)) d_nil))) (d_cons (d_tup (d_cons d_non (d_cons d_non d_nil))) (d_cons (d_tup d_nil) d_nil))))
theorem b_16 {P : Program} {w : World} {K : PySem.W.Frag} {mg : Str → Option Value} {base : Heap} (T : Gd K mg base) : BodyOk P w K mg base (lamAt 16) t_16 := fun q f c' cl A outer s H E hr hx => (w_call (ok_pair_off T) (rm hr) (glk (by kernel_rfl)) (by exact T.glo 180) hx (d_cons (d_lst (d_cons (d_tup (d_cons d_int d_nil)) d_nil)) d_nil))
theorem b_17 {P : Program} {w : World} {K : PySem.W.Frag} {mg : Str → Option Value} {base : Heap} (T : Gd K mg base) : BodyOk P w K mg base (lamAt 17) t_17 := fun q f c' cl A outer s H E hr hx => (w_call (ok_check_steps T) (rm hr) (glk (by kernel_rfl)) (by exact T.glo 181) hx (d_cons (d_lst (d_cons (d_tup (d_cons d_int d_nil)) (d_cons (d_tup (d_cons d_int d_nil)) d_nil))) (d_cons (d_lst (d_cons (d_tup (d_cons d_str (d_cons d_int (d_cons d_int d_nil)))) d_nil)) d_nil)))
end K33
namespace K33
open PySem PySem.Spec PyProof.Rows L2
theorem b_18 {P : Program} {w : World} {K : PySem.W.Frag} {mg : Str → Option Value} {base : Heap} (T : Gd K mg base) : BodyOk P w K mg base (lamAt 18) t_18 := fun q f c' cl A outer s H E hr hx => (w_make (T.mkr 182) (ok_Part_init T) (rm hr) (glk (by kernel_rfl)) (by exact T.glo 183) hx (d_cons d_int (d_cons d_int d_nil)))
theorem b_19 {P : Program} {w : World} {K : PySem.W.Frag} {mg : Str → Option Value} {base : Heap} (T : Gd K mg base) : BodyOk P w K mg base (lamAt 19) t_19 := fun q f c' cl A outer s H E hr hx => (w_call (ok_parted T) (rm hr) (glk (by kernel_rfl)) (by exact T.glo 184) hx (d_cons (d_lst (d_cons (d_tup (d_cons d_int d_nil)) (d_cons (d_tup (d_cons d_int d_nil)) d_nil))) d_nil))
theorem b_20 {P : Program} {w : World} {K : PySem.W.Frag} {mg : Str → Option Value} {base : Heap} (T : Gd K mg base) : BodyOk P w K mg base (lamAt 20) t_20 := fun q f c' cl A outer s H E hr hx => (w_call (ok_drawn T) (rm hr) (glk (by kernel_rfl)) (by exact T.glo 185) hx (d_cons (d_tup d_nil) (d_cons d_int d_nil)))
theorem b_21 {P : Program} {w : World} {K : PySem.W.Frag} {mg : Str → Option Value} {base : Heap} (T : Gd K mg base) : BodyOk P w K mg base (lamAt 21) t_21 := fun q f c' cl A outer s H E hr hx => (w_call (ok_check_rows T) (rm hr) (glk (by kernel_rfl)) (by exact T.glo 186) hx (d_cons (d_lst (d_cons (d_tup (d_cons d_int d_nil)) (d_cons (d_tup d_nil) d_nil))) d_nil))
theorem b_22 {P : Program} {w : World} {K : PySem.W.Frag} {mg : Str → Option Value} {base : Heap} (T : Gd K mg base) : BodyOk P w K mg base (lamAt 22) t_22 := fun q f c' cl A outer s H E hr hx => (w_meth (c := 18) (w_make (T.mkr 187) (ok_Pipes_init T) (rm hr) (glk (by kernel_rfl)) (by exact T.glo 188) hx (d_cons d_int d_nil)) (T.cls 141) (T.meth 189) (ok_Pipes_lay T) (rm hr) hx (d_cons d_int (d_cons d_int (d_cons (d_op op_sub p_int d_int d_int) d_nil))))
theorem b_23 {P : Program} {w : World} {K : PySem.W.Frag} {mg : Str → Option Value} {base : Heap} (T : Gd K mg base) : BodyOk P w K mg base (lamAt 23) t_23 := fun q f c' cl A outer s H E hr hx => (w_call (ok_check_cut T) (rm hr) (glk (by kernel_rfl)) (by exact T.glo 192) hx (d_cons (w_make (T.mkr 190) (ok_Wants_init T) (rm hr) (glk (by kernel_rfl)) (by exact T.glo 191) hx (d_cons (d_lst (d_cons (d_tup (d_cons d_int d_nil)) d_nil)) (d_cons (d_lst (d_cons (d_tup (d_cons d_int (d_cons d_int d_nil))) d_nil)) (d_cons (d_lst (d_cons (d_tup (d_cons d_int (d_cons d_int d_nil))) d_nil)) d_nil)))) (d_cons (d_tup (d_cons (d_tup (d_cons d_int d_nil)) (d_cons (d_tup d_nil) d_nil))) d_nil)))
end K33
namespace K33
open PySem PySem.Spec PyProof.Rows L2
theorem b_24 {P : Program} {w : World} {K : PySem.W.Frag} {mg : Str → Option Value} {base : Heap} (T : Gd K mg base) : BodyOk P w K mg base (lamAt 24) t_24 := fun q f c' cl A outer s H E hr hx => (w_make (T.mkr 193) (ok_Keeper_init T) (rm hr) (glk (by kernel_rfl)) (by exact T.glo 194) hx (d_cons (d_tup d_nil) (d_cons d_int (d_cons (d_lst (d_cons (d_tup (d_cons d_int (d_cons d_int d_nil))) d_nil)) d_nil))))
theorem b_25 {P : Program} {w : World} {K : PySem.W.Frag} {mg : Str → Option Value} {base : Heap} (T : Gd K mg base) : BodyOk P w K mg base (lamAt 25) t_25 := fun q f c' cl A outer s H E hr hx => (w_make (T.mkr 195) (ok_Deals_init T) (rm hr) (glk (by kernel_rfl)) (by exact T.glo 196) hx (d_cons (d_lst (d_cons (d_tup (d_cons d_int (d_cons d_int (d_cons d_int d_nil)))) d_nil)) (d_cons (d_lst (d_cons (d_tup (d_cons d_int d_nil)) d_nil)) (d_cons (d_lst (d_cons (d_tup (d_cons d_int (d_cons d_int d_nil))) d_nil)) (d_cons (d_lst (d_cons d_int d_nil)) d_nil)))))
theorem b_26 {P : Program} {w : World} {K : PySem.W.Frag} {mg : Str → Option Value} {base : Heap} (T : Gd K mg base) : BodyOk P w K mg base (lamAt 26) t_26 := fun q f c' cl A outer s H E hr hx => (w_call (ok_check_lot T) (rm hr) (glk (by kernel_rfl)) (by exact T.glo 197) hx (d_cons (d_lst (d_cons (d_tup (d_cons d_int d_nil)) d_nil)) (d_cons d_int (d_cons (d_tup (d_cons d_int d_nil)) d_nil))))
theorem b_27 {P : Program} {w : World} {K : PySem.W.Frag} {mg : Str → Option Value} {base : Heap} (T : Gd K mg base) : BodyOk P w K mg base (lamAt 27) t_27 := fun q f c' cl A outer s H E hr hx => (w_meth (c := 12) dv (T.cls 44) (T.meth 198) (ok_Fair_come T) (rm hr) hx (d_cons d_str (d_cons (d_tup (d_cons d_str d_nil)) d_nil)))
theorem b_28 {P : Program} {w : World} {K : PySem.W.Frag} {mg : Str → Option Value} {base : Heap} (T : Gd K mg base) : BodyOk P w K mg base (lamAt 28) t_28 := fun q f c' cl A outer s H E hr hx => (w_meth (c := 12) dv (T.cls 44) (T.meth 133) (ok_Fair_leave T) (rm hr) hx (d_cons d_str d_nil))
theorem b_29 {P : Program} {w : World} {K : PySem.W.Frag} {mg : Str → Option Value} {base : Heap} (T : Gd K mg base) : BodyOk P w K mg base (lamAt 29) t_29 := fun q f c' cl A outer s H E hr hx => (w_meth (c := 12) dv (T.cls 44) (T.meth 199) (ok_Fair_open_room T) (rm hr) hx (d_cons d_str (d_cons (d_tup (d_cons d_str d_nil)) (d_cons (d_op op_sub p_int d_int d_int) d_nil))))
end K33
namespace K33
open PySem PySem.Spec PyProof.Rows L2
theorem b_30 {P : Program} {w : World} {K : PySem.W.Frag} {mg : Str → Option Value} {base : Heap} (T : Gd K mg base) : BodyOk P w K mg base (lamAt 30) t_30 := fun q f c' cl A outer s H E hr hx => (w_meth (c := 12) dv (T.cls 44) (T.meth 200) (ok_Fair_change_room T) (rm hr) hx (d_cons d_str (d_cons (d_tup (d_cons d_str (d_cons d_str d_nil))) (d_cons d_int d_nil))))
theorem b_31 {P : Program} {w : World} {K : PySem.W.Frag} {mg : Str → Option Value} {base : Heap} (T : Gd K mg base) : BodyOk P w K mg base (lamAt 31) t_31 := fun q f c' cl A outer s H E hr hx => (w_meth (c := 12) dv (T.cls 44) (T.meth 201) (ok_Fair_shut_room T) (rm hr) hx (d_cons d_str d_nil))
theorem b_32 {P : Program} {w : World} {K : PySem.W.Frag} {mg : Str → Option Value} {base : Heap} (T : Gd K mg base) : BodyOk P w K mg base (lamAt 32) t_32 := fun q f c' cl A outer s H E hr hx => (w_call (ok_read T) (rm hr) (glk (by kernel_rfl)) (by exact T.glo 202) hx (d_cons d_str d_nil))
theorem b_33 {P : Program} {w : World} {K : PySem.W.Frag} {mg : Str → Option Value} {base : Heap} (T : Gd K mg base) : BodyOk P w K mg base (lamAt 33) t_33 := fun q f c' cl A outer s H E hr hx => (w_callT (ok_read_groups T) (rm hr) (glk (by kernel_rfl)) (by exact T.glo 203) hx)
theorem b_34 {P : Program} {w : World} {K : PySem.W.Frag} {mg : Str → Option Value} {base : Heap} (T : Gd K mg base) : BodyOk P w K mg base (lamAt 34) t_34 := fun q f c' cl A outer s H E hr hx => (w_call (ok_read_deed T) (rm hr) (glk (by kernel_rfl)) (by exact T.glo 138) hx (d_cons d_str d_nil))
theorem b_35 {P : Program} {w : World} {K : PySem.W.Frag} {mg : Str → Option Value} {base : Heap} (T : Gd K mg base) : BodyOk P w K mg base (lamAt 35) t_35 := fun q f c' cl A outer s H E hr hx => (w_meth (c := 15) dv (T.cls 134) (T.meth 204) (ok_Book_do T) (rm hr) hx (d_cons d_str d_nil))
end K33
namespace K33
open PySem PySem.Spec PyProof.Rows L2
/-! ## the law's state: ahead of the loop, with the tries' list, with the cells -/
def heap0 (a b c : Int) : Hs := [.raw (.tbl #[]), .lst [.ref 2], .lst [.int a, .int b, .int c]]
def slots0 : Slots := [none, some (.ref 2), none, none, none, none, none, none, none]
def heapB (a b c : Int) : Hs := [.lst [.ref 1], .lst [.int a, .int b, .int c], .tup [.int 0, .int 1], .tup [.int 1, .int 0], .lst [.ref 2, .ref 3], .tup [.int 0, .int 1], .tup [.int 1, .int 0], .lst [.ref 5, .ref 6], .lst [.int 1, .int 1], .ins 11 [("askers", .ref 10), ("rooms", .ref 33), ("seats", .ref 56)], .lst [.ref 15, .ref 26], .lst [.ref 12, .ref 13], .tup [.int 0, .int 1], .tup [.int 1, .int 1], .dK [(.inl 0, .int 1), (.inl 1, .int 1)], .ins 10 [("order", .ref 2), ("ranks", .ref 21)], .lst [.ref 18, .ref 20], .tup [.int 0, .int 0], .tup [.int 0, .int 0], .tup [.int 1, .int 1], .tup [.int 1, .int 1], .dK [(.inl 0, .int 0), (.inl 1, .int 1)], .lst [.ref 23, .ref 24], .tup [.int 1, .int 1], .tup [.int 0, .int 1], .dK [(.inl 1, .int 1), (.inl 0, .int 1)], .ins 10 [("order", .ref 3), ("ranks", .ref 32)], .lst [.ref 29, .ref 31], .tup [.int 0, .int 1], .tup [.int 1, .int 0], .tup [.int 1, .int 0], .tup [.int 0, .int 1], .dK [(.inl 1, .int 0), (.inl 0, .int 1)], .lst [.ref 38, .ref 49], .lst [.ref 35, .ref 36], .tup [.int 0, .int 1], .tup [.int 1, .int 1], .dK [(.inl 0, .int 1), (.inl 1, .int 1)], .ins 10 [("order", .ref 5), ("ranks", .ref 44)], .lst [.ref 41, .ref 43], .tup [.int 0, .int 0], .tup [.int 0, .int 0], .tup [.int 1, .int 1], .tup [.int 1, .int 1], .dK [(.inl 0, .int 0), (.inl 1, .int 1)], .lst [.ref 46, .ref 47], .tup [.int 1, .int 1], .tup [.int 0, .int 1], .dK [(.inl 1, .int 1), (.inl 0, .int 1)], .ins 10 [("order", .ref 6), ("ranks", .ref 55)], .lst [.ref 52, .ref 54], .tup [.int 0, .int 1], .tup [.int 1, .int 0], .tup [.int 1, .int 0], .tup [.int 0, .int 1], .dK [(.inl 1, .int 0), (.inl 0, .int 1)], .tup [.int 1, .int 1], .ins 12 [("lists", .ref 58), ("orders", .ref 59), ("seats", .ref 60), ("held", .ref 61), ("next", .ref 62), ("asks", .int 1)], .dK [(.inr "a", .ref 97)], .dK [(.inr "x", .ref 70)], .dK [(.inr "x", .int 1)], .dK [(.inr "a", .str "x")], .dK [(.inr "a", .int 1)], .ins 15 [("fair", .ref 64), ("text", .str ""), ("many", .int 0)], .ins 12 [("lists", .ref 65), ("orders", .ref 66), ("seats", .ref 67), ("held", .ref 68), ("next", .ref 69), ("asks", .int 0)], .dK [], .dK [], .dK [], .dK [], .dK [], .tup [.str "a", .str "b"], .dK [], .lst [.ref 73, .ref 74], .tup [.str "a", .int 1], .tup [.str "b", .int 1], .dK [(.inr "a", .int 1), (.inr "b", .int 1)], .lst [], .lst [.str "x"], .lst [], .dK [], .lst [.ref 81], .tup [.str "x", .int 1], .dK [(.inr "x", .int 1)], .tup [.ref 79, .ref 82], .lst [], .lst [], .lst [], .lst [], .lst [], .lst [], .lst [], .lst [], .lst [], .dK [], .lst [], .lst [], .tup [], .tup [.str "x"], .dK [], .lst [.ref 100], .tup [.str "x", .int 1], .dK [(.inr "x", .int 1)], .lst [.str "a"], .lst [.str "a"], .lst [], .lst [.str "a"], .lst [.str "a"], .lst [], .lst [], .lst [], .lst [.str "a"], .lst [.str "a"], .lst [.ref 113], .tup [.str "a", .int 1], .dK [(.inr "a", .int 1)], .lst [.str "a"], .lst [.ref 117], .tup [.str "a", .non, .str "x"], .tup [.ref 117]]
def dnO : Option W → Option W
  | some w => some w.dn
  | none => none
def slotsB : Slots := [none, some (.ref 1), none, none, some (.ref 9), some (.ref 57), some (.ref 63), none, none]
theorem resB_eq (a b c : Int) : preN slots0 (heap0 a b c) = .ok (.nx (slotsB.map upO)) (.raw (.tbl #[]) :: (heapB a b c).map AO.up) := by kernel_rfl
theorem heapB_len (a b c : Int) : (heapB a b c).length = 119 := by kernel_rfl
/-- what is told of one try: its code object, its function, what is due -/
abbrev Tri := (Heap → Prop) × (Heap → Prop) × Str
def tripL : Nat → List Tri → Hs
  | _, [] => []
  | n, x :: l => .raw (.ext x.1) :: .raw (.ext x.2.1) :: .tup [.ref (n + 1), .str x.2.2] :: tripL (n + 3) l
def lstL : Nat → Nat → List W
  | _, 0 => []
  | n, k + 1 => .ref (n + 2) :: lstL (n + 3) k
def dueS : Nat → Str
  | 0 => "wish"
  | 1 => "wish"
  | 2 => "size"
  | 3 => "room"
  | 4 => "match"
  | 5 => "match"
  | 6 => "paper"
  | 7 => "paper"
  | 8 => "match"
  | 9 => "size"
  | 10 => "paper"
  | 11 => "paper"
  | 12 => "paper"
  | 13 => "paper"
  | 14 => "size"
  | 15 => "paper"
  | 16 => "wish"
  | 17 => "paper"
  | 18 => "size"
  | 19 => "size"
  | 20 => "size"
  | 21 => "size"
  | 22 => "size"
  | 23 => "paper"
  | 24 => "room"
  | 25 => "wish"
  | 26 => "paper"
  | 27 => "deed"
  | 28 => "no such"
  | 29 => "room"
  | 30 => "wish"
  | 31 => "no such"
  | 32 => "text"
  | 33 => "text"
  | 34 => "text"
  | 35 => "no such"
  | _ => ""
def triS (co lo : Nat → Heap → Prop) : List Tri := (List.range 36).map fun i => (co i, lo i, dueS i)
/-- with the tries' list -/
def heapT (a b c : Int) (co lo : Nat → Heap → Prop) : Hs := heapB a b c ++ (tripL 119 (triS co lo) ++ [.lst (lstL 119 36)])
theorem heapT_len (a b c : Int) (co lo : Nat → Heap → Prop) : (heapT a b c co lo).length = 228 := by kernel_rfl
theorem heapT_in (a b c : Int) (co lo : Nat → Heap → Prop) : (heapT a b c co lo).all (inAO 228) = true := by kernel_rfl
theorem heapT_dice (a b c : Int) (co lo : Nat → Heap → Prop) : (heapT a b c co lo)[1]? = some (.lst [.int a, .int b, .int c]) := by kernel_rfl
theorem heapT_set (a b c a' b' c' : Int) (co lo : Nat → Heap → Prop) : (heapT a b c co lo).set 1 (.lst [.int a', .int b', .int c']) = heapT a' b' c' co lo := by kernel_rfl
theorem heapT_lst (a b c : Int) (co lo : Nat → Heap → Prop) : (heapT a b c co lo)[227]? = some (.lst (lstL 119 36)) := by kernel_rfl
def argT : Slots := [some (.ref 9), some (.ref 57), some (.ref 63)]
def saw (n : Nat) (r : Res W) : Option (Nat × Hs) := match r with
  | .exc c A => some (c, A.take n)
  | _ => none
end K33
namespace K33
open PySem PySem.Spec PyProof.Rows L2

theorem v_0 (a b c : Int) (co lo : Nat → Heap → Prop) : saw 228 (t_0 argT (heapT a b c co lo)) = some (1, heapT a b c co lo) := by kernel_rfl
theorem v_1 (a b c : Int) (co lo : Nat → Heap → Prop) : saw 228 (t_1 argT (heapT a b c co lo)) = some (1, heapT a b c co lo) := by kernel_rfl
theorem v_2 (a b c : Int) (co lo : Nat → Heap → Prop) : saw 228 (t_2 argT (heapT a b c co lo)) = some (5, heapT a b c co lo) := by kernel_rfl
theorem v_3 (a b c : Int) (co lo : Nat → Heap → Prop) : saw 228 (t_3 argT (heapT a b c co lo)) = some (2, heapT a b c co lo) := by kernel_rfl
theorem v_4 (a b c : Int) (co lo : Nat → Heap → Prop) : saw 228 (t_4 argT (heapT a b c co lo)) = some (3, heapT a b c co lo) := by kernel_rfl
theorem v_5 (a b c : Int) (co lo : Nat → Heap → Prop) : saw 228 (t_5 argT (heapT a b c co lo)) = some (3, heapT a b c co lo) := by kernel_rfl
theorem v_6 (a b c : Int) (co lo : Nat → Heap → Prop) : saw 228 (t_6 argT (heapT a b c co lo)) = some (4, heapT a b c co lo) := by kernel_rfl
theorem v_7 (a b c : Int) (co lo : Nat → Heap → Prop) : saw 228 (t_7 argT (heapT a b c co lo)) = some (4, heapT a b c co lo) := by kernel_rfl
theorem v_8 (a b c : Int) (co lo : Nat → Heap → Prop) : saw 228 (t_8 argT (heapT a b c co lo)) = some (3, heapT a b c co lo) := by kernel_rfl
theorem v_9 (a b c : Int) (co lo : Nat → Heap → Prop) : saw 228 (t_9 argT (heapT a b c co lo)) = some (5, heapT a b c co lo) := by kernel_rfl
theorem v_10 (a b c : Int) (co lo : Nat → Heap → Prop) : saw 228 (t_10 argT (heapT a b c co lo)) = some (4, heapT a b c co lo) := by kernel_rfl
theorem v_11 (a b c : Int) (co lo : Nat → Heap → Prop) : saw 228 (t_11 argT (heapT a b c co lo)) = some (4, heapT a b c co lo) := by kernel_rfl
end K33
namespace K33
open PySem PySem.Spec PyProof.Rows L2

theorem v_12 (a b c : Int) (co lo : Nat → Heap → Prop) : saw 228 (t_12 argT (heapT a b c co lo)) = some (4, heapT a b c co lo) := by kernel_rfl
theorem v_13 (a b c : Int) (co lo : Nat → Heap → Prop) : saw 228 (t_13 argT (heapT a b c co lo)) = some (4, heapT a b c co lo) := by kernel_rfl
theorem v_14 (a b c : Int) (co lo : Nat → Heap → Prop) : saw 228 (t_14 argT (heapT a b c co lo)) = some (5, heapT a b c co lo) := by kernel_rfl
theorem v_15 (a b c : Int) (co lo : Nat → Heap → Prop) : saw 228 (t_15 argT (heapT a b c co lo)) = some (4, heapT a b c co lo) := by kernel_rfl
theorem v_16 (a b c : Int) (co lo : Nat → Heap → Prop) : saw 228 (t_16 argT (heapT a b c co lo)) = some (1, heapT a b c co lo) := by kernel_rfl
theorem v_17 (a b c : Int) (co lo : Nat → Heap → Prop) : saw 228 (t_17 argT (heapT a b c co lo)) = some (4, heapT a b c co lo) := by kernel_rfl
theorem v_18 (a b c : Int) (co lo : Nat → Heap → Prop) : saw 228 (t_18 argT (heapT a b c co lo)) = some (5, heapT a b c co lo) := by kernel_rfl
theorem v_19 (a b c : Int) (co lo : Nat → Heap → Prop) : saw 228 (t_19 argT (heapT a b c co lo)) = some (5, heapT a b c co lo) := by kernel_rfl
theorem v_20 (a b c : Int) (co lo : Nat → Heap → Prop) : saw 228 (t_20 argT (heapT a b c co lo)) = some (5, heapT a b c co lo) := by kernel_rfl
theorem v_21 (a b c : Int) (co lo : Nat → Heap → Prop) : saw 228 (t_21 argT (heapT a b c co lo)) = some (5, heapT a b c co lo) := by kernel_rfl
theorem v_22 (a b c : Int) (co lo : Nat → Heap → Prop) : saw 228 (t_22 argT (heapT a b c co lo)) = some (5, heapT a b c co lo) := by kernel_rfl
theorem v_23 (a b c : Int) (co lo : Nat → Heap → Prop) : saw 228 (t_23 argT (heapT a b c co lo)) = some (4, heapT a b c co lo) := by kernel_rfl
end K33
namespace K33
open PySem PySem.Spec PyProof.Rows L2

theorem v_24 (a b c : Int) (co lo : Nat → Heap → Prop) : saw 228 (t_24 argT (heapT a b c co lo)) = some (2, heapT a b c co lo) := by kernel_rfl
theorem v_25 (a b c : Int) (co lo : Nat → Heap → Prop) : saw 228 (t_25 argT (heapT a b c co lo)) = some (1, heapT a b c co lo) := by kernel_rfl
theorem v_26 (a b c : Int) (co lo : Nat → Heap → Prop) : saw 228 (t_26 argT (heapT a b c co lo)) = some (4, heapT a b c co lo) := by kernel_rfl
theorem v_27 (a b c : Int) (co lo : Nat → Heap → Prop) : saw 228 (t_27 argT (heapT a b c co lo)) = some (9, heapT a b c co lo) := by kernel_rfl
theorem v_28 (a b c : Int) (co lo : Nat → Heap → Prop) : saw 228 (t_28 argT (heapT a b c co lo)) = some (8, heapT a b c co lo) := by kernel_rfl
theorem v_29 (a b c : Int) (co lo : Nat → Heap → Prop) : saw 228 (t_29 argT (heapT a b c co lo)) = some (2, heapT a b c co lo) := by kernel_rfl
theorem v_30 (a b c : Int) (co lo : Nat → Heap → Prop) : saw 228 (t_30 argT (heapT a b c co lo)) = some (1, heapT a b c co lo) := by kernel_rfl
theorem v_31 (a b c : Int) (co lo : Nat → Heap → Prop) : saw 228 (t_31 argT (heapT a b c co lo)) = some (8, heapT a b c co lo) := by kernel_rfl
theorem v_32 (a b c : Int) (co lo : Nat → Heap → Prop) : saw 228 (t_32 argT (heapT a b c co lo)) = some (6, heapT a b c co lo) := by kernel_rfl
theorem v_33 (a b c : Int) (co lo : Nat → Heap → Prop) : saw 228 (t_33 argT (heapT a b c co lo)) = some (6, heapT a b c co lo) := by kernel_rfl
theorem v_34 (a b c : Int) (co lo : Nat → Heap → Prop) : saw 228 (t_34 argT (heapT a b c co lo)) = some (6, heapT a b c co lo) := by kernel_rfl
theorem v_35 (a b c : Int) (co lo : Nat → Heap → Prop) : saw 228 (t_35 argT (heapT a b c co lo)) = some (8, heapT a b c co lo) := by kernel_rfl
end K33
namespace K33
open PySem PySem.Spec PyProof.Rows L2
/-! ## the law's state, by the addresses that the run has laid -/
def extF : HO → Heap → Prop
  | .ext φ => φ
  | _ => fun _ => True
def entD : Ent := ⟨lamAt 99, 0, 0, 0⟩
def lamO (n : Nat) (d : Ent) : HO := LamO d.f qT noArgs d.s.body d.s.scope (cloFrom (cellsOf n) d.s.scope.names []) d.c
def coE (ds : List Ent) (i : Nat) : Heap → Prop := extF (LamX.CodeO (ds.getD i entD).c qT)
def loE (n : Nat) (ds : List Ent) (i : Nat) : Heap → Prop := extF (lamO n (ds.getD i entD))
theorem aOf_trip (n : Nat) : ∀ (m : Nat) (ds : List Ent), aOf qT (cellsOf n) m ds = tripL m (ds.map fun d => (extF (LamX.CodeO d.c qT), extF (lamO n d), d.s.due))
  | _, [] => rfl
  | m, d :: ds => by
    show _ :: _ :: _ :: aOf qT (cellsOf n) (m + 3) ds = _ :: _ :: _ :: tripL (m + 3) (ds.map fun d => (extF (LamX.CodeO d.c qT), extF (lamO n d), d.s.due))
    rw [aOf_trip n (m + 3) ds]; rfl
theorem lOf_lst : ∀ (m : Nat) (ds : List Ent), lOf m ds = lstL m ds.length
  | _, [] => rfl
  | m, d :: ds => by
    show _ :: lOf (m + 3) ds = _ :: lstL (m + 3) ds.length
    rw [lOf_lst (m + 3) ds]
theorem due_eq : lamL.map (·.due) = (List.range 36).map dueS := by decide +kernel
theorem lamAt_eq {i : Nat} (hi : i < 36) : lamL[i]? = some (lamAt i) := by
  have h : i < lamL.length := by rw [lamL_len]; exact hi
  unfold lamAt
  rw [List.getD_eq_getElem?_getD, List.getElem?_eq_getElem h]
  rfl
theorem due_at {i : Nat} (hi : i < 36) : (lamAt i).due = dueS i := by
  have h := congrArg (fun l : List Str => l[i]?) due_eq
  simp only [List.getElem?_map, lamAt_eq hi, List.getElem?_range hi, Option.map_some, Option.some.injEq] at h
  exact h
section
variable {n : Nat} {ds : List Ent} (hds : ds.map (·.s) = lamL)
include hds
theorem ds_len : ds.length = 36 := by
  have := congrArg List.length hds
  rw [List.length_map, lamL_len] at this
  exact this
theorem ds_at {i : Nat} (hi : i < 36) : ds[i]? = some (ds.getD i entD) := by
  have h : i < ds.length := by rw [ds_len hds]; exact hi
  rw [List.getD_eq_getElem?_getD, List.getElem?_eq_getElem h]
  rfl
theorem ds_s {i : Nat} (hi : i < 36) : (ds.getD i entD).s = lamAt i := by
  have h := congrArg (fun l : List LamS => l[i]?) hds
  simp only [List.getElem?_map, ds_at hds hi, lamAt_eq hi, Option.map_some, Option.some.injEq] at h
  exact h
theorem tri_eq : triS (coE ds) (loE n ds) = ds.map fun d => (extF (LamX.CodeO d.c qT), extF (lamO n d), d.s.due) := by
  refine List.ext_getElem? fun i => ?_
  unfold triS
  rw [List.getElem?_map, List.getElem?_map]
  by_cases hi : i < 36
  · rw [List.getElem?_range hi, ds_at hds hi, Option.map_some, Option.map_some, ds_s hds hi, due_at hi]
    have e : coE ds i = extF (LamX.CodeO (ds.getD i entD).c qT) := rfl
    have e2 : loE n ds i = extF (lamO n (ds.getD i entD)) := rfl
    rw [e, e2]
  · rw [List.getElem?_eq_none (by simpa using hi), List.getElem?_eq_none (by rw [ds_len hds]; omega)]
    rfl
end
theorem tripL_0 : ∀ (l : List Tri) (m i : Nat), (tripL m l)[3 * i]? = (l[i]?).map fun x => AO.raw (.ext x.1)
  | [], _, _ => by simp [tripL]
  | x :: l, m, 0 => rfl
  | x :: l, m, i + 1 => by
    rw [show 3 * (i + 1) = 3 * i + 1 + 1 + 1 by omega]
    show (_ :: _ :: _ :: tripL (m + 3) l)[3 * i + 1 + 1 + 1]? = _
    simp only [List.getElem?_cons_succ]
    exact tripL_0 l (m + 3) i
theorem tripL_1 : ∀ (l : List Tri) (m i : Nat), (tripL m l)[3 * i + 1]? = (l[i]?).map fun x => AO.raw (.ext x.2.1)
  | [], _, _ => by simp [tripL]
  | x :: l, m, 0 => rfl
  | x :: l, m, i + 1 => by
    rw [show 3 * (i + 1) + 1 = 3 * i + 1 + 1 + 1 + 1 by omega]
    show (_ :: _ :: _ :: tripL (m + 3) l)[3 * i + 1 + 1 + 1 + 1]? = _
    simp only [List.getElem?_cons_succ]
    exact tripL_1 l (m + 3) i
theorem tripL_2 : ∀ (l : List Tri) (m i : Nat), (tripL m l)[3 * i + 2]? = (l[i]?).map fun x => AO.tup [.ref (m + 3 * i + 1), .str x.2.2]
  | [], _, _ => by simp [tripL]
  | x :: l, m, 0 => rfl
  | x :: l, m, i + 1 => by
    rw [show 3 * (i + 1) + 2 = 3 * i + 2 + 1 + 1 + 1 by omega]
    show (_ :: _ :: _ :: tripL (m + 3) l)[3 * i + 2 + 1 + 1 + 1]? = _
    simp only [List.getElem?_cons_succ]
    rw [tripL_2 l (m + 3) i, show m + 3 + 3 * i + 1 = m + 3 * (i + 1) + 1 by omega]
theorem tripL_len : ∀ (l : List Tri) (m : Nat), (tripL m l).length = 3 * l.length
  | [], _ => rfl
  | x :: l, m => by
    show (tripL (m + 3) l).length + 3 = _
    rw [tripL_len l (m + 3), List.length_cons]; omega
theorem rOf_0 : ∀ (ds : List Ent) (i : Nat), (rOf ds)[3 * i]? = (ds[i]?).map (·.c)
  | [], _ => by simp [rOf]
  | d :: ds, 0 => rfl
  | d :: ds, i + 1 => by
    rw [show 3 * (i + 1) = 3 * i + 1 + 1 + 1 by omega]
    show (_ :: _ :: _ :: rOf ds)[3 * i + 1 + 1 + 1]? = _
    simp only [List.getElem?_cons_succ]
    exact rOf_0 ds i
theorem rOf_1 : ∀ (ds : List Ent) (i : Nat), (rOf ds)[3 * i + 1]? = (ds[i]?).map (·.f)
  | [], _ => by simp [rOf]
  | d :: ds, 0 => rfl
  | d :: ds, i + 1 => by
    rw [show 3 * (i + 1) + 1 = 3 * i + 1 + 1 + 1 + 1 by omega]
    show (_ :: _ :: _ :: rOf ds)[3 * i + 1 + 1 + 1 + 1]? = _
    simp only [List.getElem?_cons_succ]
    exact rOf_1 ds i
theorem triS_at {co lo : Nat → Heap → Prop} {i : Nat} (hi : i < 36) : (triS co lo)[i]? = some (co i, lo i, dueS i) := by
  unfold triS
  rw [List.getElem?_map, List.getElem?_range hi]; rfl
theorem triS_len {co lo : Nat → Heap → Prop} : (triS co lo).length = 36 := by simp [triS]
section
variable {a b c : Int} {co lo : Nat → Heap → Prop} {i : Nat} {B : Hs}
theorem heapT_mid (k : Nat) (hk : k < 108) : (heapT a b c co lo ++ B)[119 + k]? = (tripL 119 (triS co lo))[k]? := by
  unfold heapT
  have h1 := heapB_len a b c
  have h2 : (tripL 119 (triS co lo)).length = 108 := by rw [tripL_len, triS_len]
  rw [List.append_assoc, List.getElem?_append_right (by omega), h1, List.append_assoc, List.getElem?_append_left (by omega), show 119 + k - 119 = k by omega]
theorem heapT_co (hi : i < 36) : (heapT a b c co lo ++ B)[119 + 3 * i]? = some (.raw (.ext (co i))) := by
  rw [heapT_mid _ (by omega), tripL_0, triS_at hi]; rfl
theorem heapT_lo (hi : i < 36) : (heapT a b c co lo ++ B)[119 + (3 * i + 1)]? = some (.raw (.ext (lo i))) := by
  rw [heapT_mid _ (by omega), tripL_1, triS_at hi]; rfl
theorem heapT_tup (hi : i < 36) : (heapT a b c co lo ++ B)[119 + (3 * i + 2)]? = some (.tup [.ref (119 + 3 * i + 1), .str (dueS i)]) := by
  rw [heapT_mid _ (by omega), tripL_2, triS_at hi]; rfl
end
end K33
namespace K33
open PySem PySem.Spec PyProof.Rows L2
/-! ## each try, by its number -/
def tAt : Nat → ET
  | 0 => t_0
  | 1 => t_1
  | 2 => t_2
  | 3 => t_3
  | 4 => t_4
  | 5 => t_5
  | 6 => t_6
  | 7 => t_7
  | 8 => t_8
  | 9 => t_9
  | 10 => t_10
  | 11 => t_11
  | 12 => t_12
  | 13 => t_13
  | 14 => t_14
  | 15 => t_15
  | 16 => t_16
  | 17 => t_17
  | 18 => t_18
  | 19 => t_19
  | 20 => t_20
  | 21 => t_21
  | 22 => t_22
  | 23 => t_23
  | 24 => t_24
  | 25 => t_25
  | 26 => t_26
  | 27 => t_27
  | 28 => t_28
  | 29 => t_29
  | 30 => t_30
  | 31 => t_31
  | 32 => t_32
  | 33 => t_33
  | 34 => t_34
  | 35 => t_35
  | _ => mNo
def cnS : Nat → Nat
  | 0 => 1
  | 1 => 1
  | 2 => 5
  | 3 => 2
  | 4 => 3
  | 5 => 3
  | 6 => 4
  | 7 => 4
  | 8 => 3
  | 9 => 5
  | 10 => 4
  | 11 => 4
  | 12 => 4
  | 13 => 4
  | 14 => 5
  | 15 => 4
  | 16 => 1
  | 17 => 4
  | 18 => 5
  | 19 => 5
  | 20 => 5
  | 21 => 5
  | 22 => 5
  | 23 => 4
  | 24 => 2
  | 25 => 1
  | 26 => 4
  | 27 => 9
  | 28 => 8
  | 29 => 2
  | 30 => 1
  | 31 => 8
  | 32 => 6
  | 33 => 6
  | 34 => 6
  | 35 => 8
  | _ => 0
theorem tAt_0 : tAt 0 = t_0 := rfl
theorem tAt_1 : tAt 1 = t_1 := rfl
theorem tAt_2 : tAt 2 = t_2 := rfl
theorem tAt_3 : tAt 3 = t_3 := rfl
theorem tAt_4 : tAt 4 = t_4 := rfl
theorem tAt_5 : tAt 5 = t_5 := rfl
theorem tAt_6 : tAt 6 = t_6 := rfl
theorem tAt_7 : tAt 7 = t_7 := rfl
theorem tAt_8 : tAt 8 = t_8 := rfl
theorem tAt_9 : tAt 9 = t_9 := rfl
theorem tAt_10 : tAt 10 = t_10 := rfl
theorem tAt_11 : tAt 11 = t_11 := rfl
theorem tAt_12 : tAt 12 = t_12 := rfl
theorem tAt_13 : tAt 13 = t_13 := rfl
theorem tAt_14 : tAt 14 = t_14 := rfl
theorem tAt_15 : tAt 15 = t_15 := rfl
theorem tAt_16 : tAt 16 = t_16 := rfl
theorem tAt_17 : tAt 17 = t_17 := rfl
theorem tAt_18 : tAt 18 = t_18 := rfl
theorem tAt_19 : tAt 19 = t_19 := rfl
theorem tAt_20 : tAt 20 = t_20 := rfl
theorem tAt_21 : tAt 21 = t_21 := rfl
theorem tAt_22 : tAt 22 = t_22 := rfl
theorem tAt_23 : tAt 23 = t_23 := rfl
theorem tAt_24 : tAt 24 = t_24 := rfl
theorem tAt_25 : tAt 25 = t_25 := rfl
theorem tAt_26 : tAt 26 = t_26 := rfl
theorem tAt_27 : tAt 27 = t_27 := rfl
theorem tAt_28 : tAt 28 = t_28 := rfl
theorem tAt_29 : tAt 29 = t_29 := rfl
theorem tAt_30 : tAt 30 = t_30 := rfl
theorem tAt_31 : tAt 31 = t_31 := rfl
theorem tAt_32 : tAt 32 = t_32 := rfl
theorem tAt_33 : tAt 33 = t_33 := rfl
theorem tAt_34 : tAt 34 = t_34 := rfl
theorem tAt_35 : tAt 35 = t_35 := rfl
theorem body_at {P : Program} {w : World} {K : PySem.W.Frag} {mg : Str → Option Value} {base : Heap} (T : Gd K mg base) : ∀ i, i < 36 → BodyOk P w K mg base (lamAt i) (tAt i)
  | 0, _ => by rw [tAt_0]; exact b_0 T
  | 1, _ => by rw [tAt_1]; exact b_1 T
  | 2, _ => by rw [tAt_2]; exact b_2 T
  | 3, _ => by rw [tAt_3]; exact b_3 T
  | 4, _ => by rw [tAt_4]; exact b_4 T
  | 5, _ => by rw [tAt_5]; exact b_5 T
  | 6, _ => by rw [tAt_6]; exact b_6 T
  | 7, _ => by rw [tAt_7]; exact b_7 T
  | 8, _ => by rw [tAt_8]; exact b_8 T
  | 9, _ => by rw [tAt_9]; exact b_9 T
  | 10, _ => by rw [tAt_10]; exact b_10 T
  | 11, _ => by rw [tAt_11]; exact b_11 T
  | 12, _ => by rw [tAt_12]; exact b_12 T
  | 13, _ => by rw [tAt_13]; exact b_13 T
  | 14, _ => by rw [tAt_14]; exact b_14 T
  | 15, _ => by rw [tAt_15]; exact b_15 T
  | 16, _ => by rw [tAt_16]; exact b_16 T
  | 17, _ => by rw [tAt_17]; exact b_17 T
  | 18, _ => by rw [tAt_18]; exact b_18 T
  | 19, _ => by rw [tAt_19]; exact b_19 T
  | 20, _ => by rw [tAt_20]; exact b_20 T
  | 21, _ => by rw [tAt_21]; exact b_21 T
  | 22, _ => by rw [tAt_22]; exact b_22 T
  | 23, _ => by rw [tAt_23]; exact b_23 T
  | 24, _ => by rw [tAt_24]; exact b_24 T
  | 25, _ => by rw [tAt_25]; exact b_25 T
  | 26, _ => by rw [tAt_26]; exact b_26 T
  | 27, _ => by rw [tAt_27]; exact b_27 T
  | 28, _ => by rw [tAt_28]; exact b_28 T
  | 29, _ => by rw [tAt_29]; exact b_29 T
  | 30, _ => by rw [tAt_30]; exact b_30 T
  | 31, _ => by rw [tAt_31]; exact b_31 T
  | 32, _ => by rw [tAt_32]; exact b_32 T
  | 33, _ => by rw [tAt_33]; exact b_33 T
  | 34, _ => by rw [tAt_34]; exact b_34 T
  | 35, _ => by rw [tAt_35]; exact b_35 T
  | i + 36, h => absurd h (by omega)
theorem saw_at (a b c : Int) (co lo : Nat → Heap → Prop) : ∀ i, i < 36 → saw 228 (tAt i argT (heapT a b c co lo)) = some (cnS i, heapT a b c co lo)
  | 0, _ => by rw [tAt_0]; exact v_0 a b c co lo
  | 1, _ => by rw [tAt_1]; exact v_1 a b c co lo
  | 2, _ => by rw [tAt_2]; exact v_2 a b c co lo
  | 3, _ => by rw [tAt_3]; exact v_3 a b c co lo
  | 4, _ => by rw [tAt_4]; exact v_4 a b c co lo
  | 5, _ => by rw [tAt_5]; exact v_5 a b c co lo
  | 6, _ => by rw [tAt_6]; exact v_6 a b c co lo
  | 7, _ => by rw [tAt_7]; exact v_7 a b c co lo
  | 8, _ => by rw [tAt_8]; exact v_8 a b c co lo
  | 9, _ => by rw [tAt_9]; exact v_9 a b c co lo
  | 10, _ => by rw [tAt_10]; exact v_10 a b c co lo
  | 11, _ => by rw [tAt_11]; exact v_11 a b c co lo
  | 12, _ => by rw [tAt_12]; exact v_12 a b c co lo
  | 13, _ => by rw [tAt_13]; exact v_13 a b c co lo
  | 14, _ => by rw [tAt_14]; exact v_14 a b c co lo
  | 15, _ => by rw [tAt_15]; exact v_15 a b c co lo
  | 16, _ => by rw [tAt_16]; exact v_16 a b c co lo
  | 17, _ => by rw [tAt_17]; exact v_17 a b c co lo
  | 18, _ => by rw [tAt_18]; exact v_18 a b c co lo
  | 19, _ => by rw [tAt_19]; exact v_19 a b c co lo
  | 20, _ => by rw [tAt_20]; exact v_20 a b c co lo
  | 21, _ => by rw [tAt_21]; exact v_21 a b c co lo
  | 22, _ => by rw [tAt_22]; exact v_22 a b c co lo
  | 23, _ => by rw [tAt_23]; exact v_23 a b c co lo
  | 24, _ => by rw [tAt_24]; exact v_24 a b c co lo
  | 25, _ => by rw [tAt_25]; exact v_25 a b c co lo
  | 26, _ => by rw [tAt_26]; exact v_26 a b c co lo
  | 27, _ => by rw [tAt_27]; exact v_27 a b c co lo
  | 28, _ => by rw [tAt_28]; exact v_28 a b c co lo
  | 29, _ => by rw [tAt_29]; exact v_29 a b c co lo
  | 30, _ => by rw [tAt_30]; exact v_30 a b c co lo
  | 31, _ => by rw [tAt_31]; exact v_31 a b c co lo
  | 32, _ => by rw [tAt_32]; exact v_32 a b c co lo
  | 33, _ => by rw [tAt_33]; exact v_33 a b c co lo
  | 34, _ => by rw [tAt_34]; exact v_34 a b c co lo
  | 35, _ => by rw [tAt_35]; exact v_35 a b c co lo
  | i + 36, h => absurd h (by omega)
theorem due_tab : ∀ i, i < 36 → (cnS i, dueS i) ∈ dueTab := by
  have h : ((List.range 36).all fun i => dueTab.contains (cnS i, dueS i)) = true := by decide +kernel
  intro i hi
  exact List.contains_iff_mem.mp (List.all_eq_true.mp h i (List.mem_range.mpr hi))
theorem lamB_at {i : Nat} (hi : i < 36) : lamB (lamAt i) = true := List.all_eq_true.mp lamB_all _ (List.mem_of_getElem? (lamAt_eq hi))
/-- the law's state: what the run has laid -/
structure Ctx3 (n : Nat) (ds : List Ent) (ρB : List Addr) (v0 v1 v2 : V) : Prop where
  hds : ds.map (·.s) = lamL
  hl : ρB.length = 119
  r0 : RV ρB (.ref 9) v0
  r1 : RV ρB (.ref 57) v1
  r2 : RV ρB (.ref 63) v2
def rhoT (ds : List Ent) (ρB : List Addr) (p : Addr) : List Addr := ρB ++ rOf ds ++ [p]
def csL (n : Nat) : List Addr := [n + 1, n + 1 + 1, n + 1 + 1 + 1]
def celA (n : Nat) (v0 v1 v2 : V) : List HO := [CelO (n + 1) v0, CelO (n + 1 + 1) v1, CelO (n + 1 + 1 + 1) v2]
def heapF (n : Nat) (ds : List Ent) (v0 v1 v2 : V) (a b c : Int) : Hs := heapT a b c (coE ds) (loE n ds) ++ (celA n v0 v1 v2).map AO.raw
section
variable {P : Program} {w : World} {K : PySem.W.Frag} {mg : Str → Option Value} {base : Heap} {n : Nat} {ds : List Ent} {ρB : List Addr} {p : Addr} {v0 v1 v2 : V} {a b c : Int} {H : Hp}
theorem Ctx3.len (C : Ctx3 n ds ρB v0 v1 v2) : (rhoT ds ρB p).length = 228 := by
  unfold rhoT
  rw [List.length_append, List.length_append, rOf_len, ds_len C.hds, C.hl]; rfl
theorem rho_at (C : Ctx3 n ds ρB v0 v1 v2) {l : List Addr} {k : Nat} (hk : k < 108) : (rhoT ds ρB p ++ l)[119 + k]? = (rOf ds)[k]? := by
  unfold rhoT
  have h1 := C.hl
  have h2 : (rOf ds).length = 108 := by rw [rOf_len, ds_len C.hds]
  rw [List.append_assoc, List.append_assoc, List.getElem?_append_right (by omega), h1, List.getElem?_append_left (by omega), show 119 + k - 119 = k by omega]
theorem cel_at (C : Ctx3 n ds ρB v0 v1 v2) (m : M (G K) (rhoT ds ρB p ++ csL n) (heapF n ds v0 v1 v2 a b c) H) : ∀ e ∈ cellL n v0 v1 v2, H e.1 = some (CelO e.1 e.2) := fun e he => by
  have hl := heapT_len a b c (coE ds) (loE n ds)
  have hr : (rhoT ds ρB p).length = 228 := C.len
  have get : ∀ (j : Nat) (ad : Addr) (o : HO), (csL n)[j]? = some ad → (celA n v0 v1 v2)[j]? = some o → H ad = some o := fun j ad o e1 e2 => by
    refine m.obj (228 + j) ad (.raw o) ?_ ?_
    · rw [List.getElem?_append_right (by omega), hr, show 228 + j - 228 = j by omega]; exact e1
    · unfold heapF
      rw [List.getElem?_append_right (by omega), hl, show 228 + j - 228 = j by omega, List.getElem?_map, e2]; rfl
  simp only [cellL, List.mem_cons, List.not_mem_nil, or_false] at he
  rcases he with rfl | rfl | rfl
  · exact get 0 _ _ rfl rfl
  · exact get 1 _ _ rfl rfl
  · exact get 2 _ _ rfl rfl
theorem csL_eq : csL n = (cellL n v0 v1 v2).map (·.1) := rfl
theorem cels_of (C : Ctx3 n ds ρB v0 v1 v2) (m : M (G K) (rhoT ds ρB p ++ csL n) (heapF n ds v0 v1 v2 a b c) H) : Cels (csL n) H := fun ad had => by
  rw [csL_eq (v0 := v0) (v1 := v1) (v2 := v2)] at had
  obtain ⟨e, he, rfl⟩ := List.mem_map.mp had
  exact ⟨e.2, cel_at C m e he⟩
/-- the cells that a lambda took -/
theorem clo_of {names : List (Str × NameKind)} (hn : ∀ y ∈ names, y.2 = .free → y.1 ∈ nmsT) {x : Str} {ad : Addr} (h : (cloFrom (cellsOf n) names []).lookup x = some ad) : (x = "_law_market" ∧ ad = n + 1) ∨ (x = "_law_fair" ∧ ad = n + 1 + 1) ∨ (x = "_law_book" ∧ ad = n + 1 + 1 + 1) := by
  rcases cloFrom_mem (PySem.mem_of_lookup h) with hm | ⟨h1, h2⟩
  · cases hm
  · have hx := hn _ h1 rfl
    simp only [nmsT, List.mem_cons, List.not_mem_nil, or_false] at hx
    rcases hx with hx | hx | hx
    · subst hx
      rw [cellsOf_m] at h2
      exact .inl ⟨rfl, h2⟩
    · subst hx
      rw [cellsOf_f] at h2
      exact .inr (.inl ⟨rfl, h2⟩)
    · subst hx
      rw [cellsOf_b] at h2
      exact .inr (.inr ⟨rfl, h2⟩)
theorem took_at (C : Ctx3 n ds ρB v0 v1 v2) (m : M (G K) (rhoT ds ρB p ++ csL n) (heapF n ds v0 v1 v2 a b c) H) {sc : Scope} (hn : ∀ y ∈ sc.names, y.2 = .free → y.1 ∈ nmsT) : TookH nmsT sc (cloFrom (cellsOf n) sc.names []) (csL n) [some v0, some v1, some v2] H := by
  refine ⟨fun x y ad h1 h2 => ?_, fun x h => ?_, fun x ad h => ?_, fun i x v ad e1 e2 h => ?_, rfl⟩
  · rcases clo_of hn h1 with ⟨rfl, e1⟩ | ⟨rfl, e1⟩ | ⟨rfl, e1⟩ <;> rcases clo_of hn h2 with ⟨rfl, e2⟩ | ⟨rfl, e2⟩ | ⟨rfl, e2⟩ <;> first
      | rfl
      | exact absurd (show (_ : Nat) = _ from e1.symm.trans e2) (by omega)
  · have hy : (x, NameKind.free) ∈ sc.names := PySem.mem_of_lookup h
    exact mem_lookup (cloFrom_has (cells := cellsOf n) (acc := []) hy)
  · rcases clo_of hn h with ⟨_, rfl⟩ | ⟨_, rfl⟩ | ⟨_, rfl⟩ <;> simp [csL]
  · have key : ∀ e ∈ cellL n v0 v1 v2, e.1 = ad → e.2 = v → H ad = some (CelO ad v) := fun e he e3 e4 => by
      subst e3 e4; exact cel_at C m e he
    have nm : ∀ {j : Nat} {y z : Str}, nmsT[j]? = some y → nmsT[j]? = some z → y = z := fun h1 h2 => by rw [h1] at h2; exact Option.some.inj h2
    have nd : nmsT.Nodup := by decide +kernel
    have ix : ∀ {j : Nat}, nmsT[j]? = some x → j = i := fun {j} hj => nodup_ix nd hj e1
    rcases clo_of hn h with ⟨rfl, e3⟩ | ⟨rfl, e3⟩ | ⟨rfl, e3⟩
    · have hi := ix (j := 0) rfl
      subst hi
      exact key (n + 1, v0) (by simp [cellL]) e3.symm (by simpa using e2)
    · have hi := ix (j := 1) rfl
      subst hi
      exact key (n + 1 + 1, v1) (by simp [cellL]) e3.symm (by simpa using e2)
    · have hi := ix (j := 2) rfl
      subst hi
      exact key (n + 1 + 1 + 1, v2) (by simp [cellL]) e3.symm (by simpa using e2)
theorem tells_at (T : Gd K mg base) (C : Ctx3 n ds ρB v0 v1 v2) {i : Nat} (hi : i < 36) {Q : VK} (m : M (G K) (rhoT ds ρB p ++ csL n) (heapF n ds v0 v1 v2 a b c) H)
    (hQ : ∀ H', M (G K) (rhoT ds ρB p ++ csL n) (heapF n ds v0 v1 v2 a b c) H' → Q (.str (dueS i)) H') : Tells P w K mg base 8 (ds.getD i entD).f H Q := by
  have hlT := heapT_len a b c (coE ds) (loE n ds)
  have hr : (rhoT ds ρB p).length = 228 := C.len
  have Ce := cels_of C m
  obtain ⟨ln, lf⟩ := lamB_n (lamB_at hi)
  have ec : H (ds.getD i entD).c = some (LamX.CodeO (ds.getD i entD).c qT) := m.obj (119 + 3 * i) _ (.raw (.ext (coE ds i))) (by rw [rho_at C (by omega), rOf_0, ds_at C.hds hi]; rfl) (heapT_co hi)
  have ef : H (ds.getD i entD).f = some (lamO n (ds.getD i entD)) := m.obj (119 + (3 * i + 1)) _ (.raw (.ext (loE n ds i))) (by rw [rho_at C (by omega), rOf_1, ds_at C.hds hi]; rfl) (heapT_lo hi)
  have es := ds_s C.hds hi
  have nd := List.nodup_append.mp m.nd
  have dj : ∀ ad ∈ csL n, ad ∉ rhoT ds ρB p := fun ad h1 h2 => nd.2.2 ad h2 ad h1 rfl
  unfold lamO at ef
  rw [es] at ef
  refine ⟨(ds.getD i entD).c, qT, ⟨noArgs, (lamAt i).body, (lamAt i).scope⟩, cloFrom (cellsOf n) (lamAt i).scope.names [], csL n, nmsT, [some v0, some v1, some v2], tAt i, cnS i, dueS i, due_tab i hi, ef, ec, ln, fun _ _ => rfl, Ce, took_at C m lf, fun A outer s H0 E1 hr => ?_, fun ⟨h, hok⟩ => ?_⟩
  · exact body_at T i hi _ _ _ _ _ _ _ _ _ hr (passes_call (takes_of rfl rfl rfl rfl) fun _ _ _ _ h => h)
  · have mT : M (G K) (rhoT ds ρB p) (heapT a b c (coE ds) (loE n ds)) H := m.take (by rw [hr, hlT]) (by rw [hlT]; exact heapT_in a b c _ _)
    have mh : M (G K) (rhoT ds ρB p) (heapT a b c (coE ds) (loE n ds)) (hid (csL n) H) := mT.hid Ce hok dj
    have hs := saw_at a b c (coE ds) (loE n ds) i hi
    have up : ∀ {k : Nat} {v : V}, RV ρB (.ref k) v → RV (rhoT ds ρB p) (.ref k) v := fun r => r.ext ⟨rOf ds ++ [p], by unfold rhoT; rw [List.append_assoc]⟩
    cases ht : tAt i argT (heapT a b c (coE ds) (loE n ds)) with
    | ok w' A' => rw [ht] at hs; cases hs
    | bad => rw [ht] at hs; cases hs
    | exc cn A' =>
      rw [ht] at hs
      have hs : some (cn, A'.take 228) = some (cnS i, heapT a b c (coE ds) (loE n ds)) := hs
      injection hs with hs
      injection hs with e1 e2
      refine ⟨rhoT ds ρB p, argT, heapT a b c (coE ds) (loE n ds), A', ⟨.cons ⟨_, rfl, up C.r0⟩ (.cons ⟨_, rfl, up C.r1⟩ (.cons ⟨_, rfl, up C.r2⟩ .nil)), mh⟩, by rw [← e1]; exact ht, fun ρ' H' x m' hz => hQ _ ?_⟩
      have m1 : M (G K) (rhoT ds ρB p) (heapT a b c (coE ds) (loE n ds)) H' := m'.takeE x (by rw [hr, hlT]) (by rw [hlT]; exact heapT_in a b c _ _) (by rw [hlT]; exact e2)
      have m2 := M.unh (H := H) m1 dj hz
      have ce := cel_at C m
      exact m2.addR (os := celA n v0 v1 v2) dj nd.2.1 (.cons ⟨(unh_in (by simp [csL])).trans (ce (n + 1, v0) (by simp [cellL])), fun ps z => by unfold CelO at z; cases z⟩
        (.cons ⟨(unh_in (by simp [csL])).trans (ce (n + 1 + 1, v1) (by simp [cellL])), fun ps z => by unfold CelO at z; cases z⟩ (.cons ⟨(unh_in (by simp [csL])).trans (ce (n + 1 + 1 + 1, v2) (by simp [cellL])), fun ps z => by unfold CelO at z; cases z⟩ .nil)))
end
end K33
namespace K33
open PySem PySem.Spec PyProof.Rows L2
/-! ## _law_rounds: over the script as the run has it -/
def mRest : ST := (mSeq (mIfS (mIsB (mBin (opEq false) (mVar 2) (mLst mNil))) (mSeq (mAsg (mLst (mCons (mC (.int 0)) mNil)) (.nm 2)) mNext) mNext) (mSeq (mRet (mLc 24 (mWL (mVar 2)) (.nm 3) [3] mYes (mCallF 1 k_law_dice (mCons (mVar 3) mNil)))) mNext))
theorem rest_nil : mRest [none, some (.int 1), some (.ref 1), none] [.raw (.tbl #[]), .lst []] = .ok (.rt (.ref 4)) [.raw (.tbl #[]), .lst [], .lst [], .lst [.int 0], .lst [.ref 5], .lst [.int 0, .int 0, .int 2]] := by kernel_rfl
theorem rest_cons (n : Int) : ∃ a b c : Int, mRest [none, some (.int 1), some (.ref 1), none] [.raw (.tbl #[]), .lst [.int n]] = .ok (.rt (.ref 3)) [.raw (.tbl #[]), .lst [.int n], .lst [], .lst [.ref 4], .lst [.int a, .int b, .int c]] := by
  obtain ⟨a, b, c, e⟩ := dice_is n [.raw (.tbl #[]), .lst [.int n], .lst [], .lst []]
  refine ⟨a, b, c, ?_⟩
  have q := eq_nil (A := [.raw (.tbl #[]), .lst [.int n], .lst []]) (i := 1) (j := 2) (n := n) rfl rfl
  have lp : ∀ (z : Lc) (st : Lc → Lc), loopN z st 24 = st (st (loopN z st 22)) := fun _ _ => rfl
  have e := e
  simp only [List.length_cons, List.length_nil, List.cons_append, List.nil_append] at e
  simp [mRest, Res.bind, mSeq, mVar, mC, newO, Tg.put, mIfS, mIsB, mBin, mLst, mNil, sz0, q, mRet, mNext, mLc, mWL, lp, lcStep, Src.nxt, nxtOf, wipeW, mYes, noX, mCallF, mCons, e, sz1]
theorem sel3 {g : Gr} {ρ : List Addr} {A : Hs} {H : Hp} (m : M g ρ A H) {j k : Nat} {P r d : Addr} {o : HO} {x y z : Int} (e0 : ρ[0]? = some P) (e1 : ρ[j]? = some r) (e2 : ρ[k]? = some d) (h0 : A[0]? = some (.raw o)) (h1 : A[j]? = some (.lst [.ref k])) (h2 : A[k]? = some (.lst [.int x, .int y, .int z])) (n1 : j ≠ 0) (n2 : k ≠ 0) (n3 : j ≠ k) :
    M g [P, r, d] [.raw o, .lst [.ref 2], .lst [.int x, .int y, .int z]] H := by
  have ne : ∀ {i j : Nat} {a b : Addr}, ρ[i]? = some a → ρ[j]? = some b → i ≠ j → a ≠ b := fun {i j a b} ha hb hij z => by
    subst z
    obtain ⟨h1, e1⟩ := List.getElem?_eq_some_iff.mp ha
    obtain ⟨h2, e2⟩ := List.getElem?_eq_some_iff.mp hb
    exact hij ((List.getElem_inj m.nd).mp (e1.trans e2.symm))
  have p1 := ne e1 e0 n1
  have p2 := ne e2 e0 n2
  have p3 := ne e1 e2 n3
  have o0 := m.obj 0 P _ e0 h0
  have o1 := m.obj j r _ e1 h1
  have o2 := m.obj k d _ e2 h2
  refine ⟨?_, rfl, fun i a u q1 q2 => ?_, m.tab, fun i a ps q1 q2 => ?_, m.inv⟩
  · simp only [List.nodup_cons, List.mem_cons, List.not_mem_nil, or_false, not_or, not_false_eq_true, List.nodup_nil, and_true]
    exact ⟨⟨p1.symm, p2.symm⟩, p3⟩
  · match i, q1, q2 with
    | 0, q1, q2 => cases q1; cases q2; exact o0
    | 1, q1, q2 =>
      cases q1; cases q2
      obtain ⟨vs, rv, e⟩ := o1
      obtain ⟨v, rfl, d', rfl, ed⟩ := RVs.one rv
      rw [e2] at ed; cases ed
      exact ⟨_, .cons ⟨d, rfl, rfl⟩ .nil, e⟩
    | 2, q1, q2 =>
      cases q1; cases q2
      obtain ⟨vs, rv, e⟩ := o2
      match vs, rv with
      | [_, _, _], .cons a (.cons b (.cons c .nil)) => exact ⟨_, .cons a (.cons b (.cons c .nil)), e⟩
    | i + 3, q1, q2 => cases q1
  · match i, q1, q2 with
    | 0, q1, q2 => cases q1; cases q2; exact m.nt 0 _ ps e0 h0
    | 1, q1, q2 => cases q2
    | 2, q1, q2 => cases q2
    | i + 3, q1, q2 => cases q1
theorem cutV1 (v : V) (vs : List V) : cutV (v :: vs) none (some 1) = [v] := by
  unfold cutV HT.sIx
  simp
def spRounds (K : PySem.W.Frag) : Sp := fun vs H Q _ => ∃ (a : Addr) (ns : List Int), vs = [.ref a, .int 1] ∧ SqL K H a (ns.map V.int) ∧ M (G K) [tabT K] [.raw (.tbl #[])] H ∧
  ∀ (r d : Addr) (x y z : Int) (H' : Hp), M (G K) [tabT K, r, d] [.raw (.tbl #[]), .lst [.ref 2], .lst [.int x, .int y, .int z]] H' → Q (.ref r) H'
theorem ok_law_roundsS {P : Program} {w : World} {K : PySem.W.Frag} {mg : Str → Option Value} {base : Heap} (T : Gd K mg base) : FnS P w K mg base d_x_law_rounds.at_ 2 ["_law_script", "_law_most_now"] (spRounds K) := by
  refine T.funS (d := d_x_law_rounds) 101 (by rfl) sc_law_rounds (fun vs H Q E h => by obtain ⟨_, _, rfl, _⟩ := h; rfl) (fun cdv A outer s H vs Q E hcd hr tk hx hp hsp => ?_) (fun fd F => F.bindsN fun _ _ _ _ _ _ us hl => match us, hl with | [_, _], _ => rfl)
  have hN := sc_law_rounds.nd
  obtain ⟨a, ns, rfl, hS, m, hQ⟩ := hsp
  have rest : PSs (cxOf (L2.CX P w) P w K mg base ["_law_script", "_law_most_now", "_law_cells", "_law_cell"] d_x_law_rounds.qual d_x_law_rounds.scope (He.fAd K d_x_law_rounds.at_) cdv A outer s H E) (d_x_law_rounds.body.drop 1) (rS (G K) E mRest) := (d_scons (d_sif (d_tcmp (op_eqD (hu64 hr)) p_eq dv (d_lst d_nil)) (d_scons (dset 2 hN (d_lst (d_cons d_int d_nil))) d_snil) d_snil) (d_scons (d_sret (d_lc rfl hN (d_wl dv) (blkOk_by (own := [("_law_cell", 3)]) (by kernel_rfl)) (by decide) (fun s H C cl fp => (dgn hN)) (fun s H C cl fp => d_ts0) (fun s H C cl fp => (w_call (ok_law_dice T) (rm hr) (glk (by kernel_rfl)) (by exact T.glo 159) passNo (d_cons dv d_nil))))) d_snil))
  refine ⟨_, pss_cons (ps_set (i := 2) hN rfl (.inl rfl) (pe_slice sl_list (pe_var (i := 0) rfl (.inl rfl)) po_none (po_some (pe_var (i := 1) rfl (.inl rfl))))) rest, ?_⟩
  refine ⟨_, rfl, _, rfl, 1, rfl, a, _, rfl, hS, fun p hp => ?_⟩
  have go : ∀ (ws : List W), RVs ([tabT K] ++ [p]) ws (cutV (ns.map V.int) none (some 1)) → (∃ (j k : Nat) (x y z : Int) (A' : Hs), mRest [none, some (.int 1), some (.ref 1), none] [.raw (.tbl #[]), .lst ws] = .ok (.rt (.ref j)) A' ∧ A'[0]? = some (.raw (.tbl #[])) ∧ A'[j]? = some (.lst [.ref k]) ∧ A'[k]? = some (.lst [.int x, .int y, .int z]) ∧ j ≠ 0 ∧ k ≠ 0 ∧ j ≠ k) →
      rS (G K) E mRest { nx := fun _ H' => Q .non H', rt := Q } ((L2.start ["_law_script", "_law_most_now", "_law_cells", "_law_cell"] [.ref a, .int 1]).set 2 (some (.ref p))) (upd H p (.lst (cutV (ns.map V.int) none (some 1)))) := fun ws rw_ ⟨j, k, x, y, z, A', e, h0, h1, h2, n1, n2, n3⟩ => by
    have m2 := m.push (p := p) (o := .lst (cutV (ns.map V.int) none (some 1))) (ao := .lst ws) hp rfl ⟨_, rw_, upd_same⟩
    refine ⟨[tabT K] ++ [p], [none, some (.int 1), some (.ref 1), none], [.raw (.tbl #[]), .lst ws], ⟨.cons trivial (.cons ⟨_, rfl, rfl⟩ (.cons ⟨_, rfl, p, rfl, rfl⟩ (.cons trivial .nil))), m2⟩, ?_⟩
    rw [e]
    refine fun ρ' H' xt m' v rv => ?_
    obtain ⟨r, rfl, er⟩ := rv
    obtain ⟨l, rfl⟩ := xt
    have hk := (List.getElem?_eq_some_iff.mp h2).1
    rw [← m'.len] at hk
    exact hQ r _ x y z H' (sel3 m' (k := k) rfl er (List.getElem?_eq_getElem hk) h0 h1 h2 n1 n2 n3)
  cases ns with
  | nil => exact go [] .nil ⟨4, 5, 0, 0, 2, _, rest_nil, rfl, rfl, rfl, by decide, by decide, by decide⟩
  | cons n ns =>
    obtain ⟨x, y, z, e⟩ := rest_cons n
    exact go [.int n] (by rw [List.map_cons, cutV1]; exact .cons rfl .nil) ⟨3, 4, x, y, z, _, e, rfl, rfl, rfl, by decide, by decide, by decide⟩
end K33
namespace K33
open PySem PySem.Spec PyProof.Rows L2
/-! ## the law's loop: a turn; the end -/
def mAsgL : ST := mAsg (mBin opIx (mVar 2) (mBin (opIntC (fun _ j => decide (0 < j)) fun i j => i % j) (mBin opAdd (mCallF 2 k_law_roll (mCons (mVar 1) (mCons (mC (.int 36)) mNil))) (mBin opMulS (mVar 3) (mC (.int 5)))) (mC (.int 36)))) (.tp [7, 8])
def mP5 : ST := (mIfS (mOr (mIsB (mBin (opEq true) (mCallM 12 "match" 1 k_Fair_match (mVar 5) mNil) (mTup (mCons (mTup (mCons (mC (.str "a")) (mCons (mC (.str "x")) mNil))) mNil)))) (mOr (mIsB (mBin (opEq true) (mCallM 12 "names" 1 k_Fair_names (mVar 5) mNil) (mTup (mCons (mTup (mCons (mC (.str "a")) mNil)) (mCons (mTup (mCons (mC (.str "x")) mNil)) mNil))))) (mOr (mIsB (mBin (opEq true) (mFld 15 "text" (mVar 6)) (mC (.str "")))) (mIsB (mBin (opEq true) (mCallM 11 "shown" 1 k_Market_shown (mVar 4) mNil) (mTup (mCons (mTup (mCons (mTup (mCons (mC (.int 0)) (mCons (mC (.int 1)) mNil))) (mCons (mTup (mCons (mC (.int 1)) (mCons (mC (.int 0)) mNil))) mNil))) (mCons (mTup (mCons (mTup (mCons (mC (.int 0)) (mCons (mC (.int 1)) mNil))) (mCons (mTup (mCons (mC (.int 1)) (mCons (mC (.int 0)) mNil))) mNil))) (mCons (mTup (mCons (mC (.int 1)) (mCons (mC (.int 1)) mNil))) mNil))))))))) mNo mNext)
def slotsL (x3 x7 x8 : Option W) : Slots := [none, some (.ref 1), some (.ref 227), x3, some (.ref 9), some (.ref 57), some (.ref 63), x7, x8]
def endOf (r : Res Fl) : Option (Option AO) := match r with
  | .ok (.nx _) A => some A[0]?
  | _ => none
theorem end_eval (a b c : Int) (x3 x7 x8 : Option W) (co lo ce : Nat → Heap → Prop) : endOf (mP5 (slotsL x3 x7 x8) (heapT a b c co lo ++ [.raw (.ext (ce 0)), .raw (.ext (ce 1)), .raw (.ext (ce 2))])) = some (some (.lst [.ref 1])) := by kernel_rfl
theorem lstL_at : ∀ (c n k : Nat), k < c → (lstL n c)[k]? = some (.ref (n + 3 * k + 2))
  | 0, _, _, h => absurd h (Nat.not_lt_zero _)
  | c + 1, n, 0, _ => rfl
  | c + 1, n, k + 1, h => by
    show (_ :: lstL (n + 3) c)[k + 1]? = _
    rw [List.getElem?_cons_succ, lstL_at c (n + 3) k (by omega), show n + 3 + 3 * k + 2 = n + 3 * (k + 1) + 2 by omega]
theorem lstL_len : ∀ (c n : Nat), (lstL n c).length = c
  | 0, _ => rfl
  | c + 1, n => by
    show (lstL (n + 3) c).length + 1 = _
    rw [lstL_len c (n + 3)]
theorem asg_eval {A : Hs} {x3 x7 x8 : Option W} {j a b c : Int} (h1 : A[1]? = some (.lst [.int a, .int b, .int c])) (h2 : A[227]? = some (.lst (lstL 119 36))) (h3 : ∀ k, k < 36 → A[119 + (3 * k + 2)]? = some (.tup [.ref (119 + 3 * k + 1), .str (dueS k)])) :
    ∃ (k : Nat) (a' b' c' : Int), k < 36 ∧ mAsgL (slotsL (some (.int j)) x7 x8) A = .ok (.nx (slotsL (some (.int j)) (some (.ref (119 + 3 * k + 1))) (some (.str (dueS k))))) (A.set 1 (.lst [.int a', .int b', .int c'])) := by
  obtain ⟨r, a', b', c', r0, r1, e⟩ := roll_is a b c 1 A h1
  have m0 : 0 ≤ (r + j * 5) % 36 := Int.emod_nonneg _ (by decide)
  have m1 : (r + j * 5) % 36 < 36 := Int.emod_lt_of_pos _ (by decide)
  obtain ⟨k, hk⟩ := Int.eq_ofNat_of_zero_le m0
  have hk36 : k < 36 := by omega
  refine ⟨k, a', b', c', hk36, ?_⟩
  have g2 : (A.set 1 (.lst [.int a', .int b', .int c']))[227]? = some (.lst (lstL 119 36)) := by rw [List.getElem?_set_ne (by decide)]; exact h2
  have g3 : (A.set 1 (.lst [.int a', .int b', .int c']))[119 + 3 * k + 2]? = some (.tup [.ref (119 + 3 * k + 1), .str (dueS k)]) := by
    rw [List.getElem?_set_ne (by omega), show 119 + 3 * k + 2 = 119 + (3 * k + 2) by omega]; exact h3 k hk36
  have at_ : atI (lstL 119 36) ((r + j * 5) % 36) = some (.ref (119 + 3 * k + 2)) := by
    rw [hk]
    exact atI_nat (lstL_at 36 119 k hk36)
  have ix := ix_lst g2 at_
  have e5 : opMulS (.int j) (.int 5) (A.set 1 (.lst [.int a', .int b', .int c'])) = .ok (.int (j * 5)) (A.set 1 (.lst [.int a', .int b', .int c'])) := rfl
  simp [mAsgL, mAsg, mBin, mVar, mC, mCallF, mCons, mNil, Res.bind, slotsL, e, e5, opIntC, opAdd, ix, Tg.put, g3, setsW]
end K33
set_option maxHeartbeats 4000000
namespace K33
open PySem PySem.Spec PyProof.Rows L2
/-! ## the law -/
def nmsL : List Str := ["_law_script", "_law_dice_here", "_law_tries_here", "_law_turn", "_law_market", "_law_fair", "_law_book", "_law_what", "_law_due"]
theorem sc_law : FnScope nmsL ["_law_script"] d_x_law.scope := ⟨rfl, rfl, rfl, by decide +kernel, rfl, by decide +kernel, by decide +kernel⟩
section
variable {P : Program} {w : World} {K : PySem.W.Frag} {mg : Str → Option Value} {base : Heap}
theorem Gd.funF (T : Gd K mg base) {d : He.DefD} {N ps : List Str} {k : Nat} {sp : Sp} (S : FnScope N ps d.scope) (len : ∀ vs H Q E, sp vs H Q E → vs.length = ps.length)
    (hb : ∀ (cdv : Value) (A : Around) (outer : List Env) (s : Shared) (H : Hp) (vs : List V) (Q : VK) (E : XK), cdv = .ref (He.cT K d.at_).1 → Room k (cxOf (L2.CX P w) P w K mg base N d.qual d.scope (He.fAd K d.at_) cdv A outer s H E).A →
      Takes (cxOf (L2.CX P w) P w K mg base N d.qual d.scope (He.fAd K d.at_) cdv A outer s H E) (fun cls d _ H => E cls d H) → Passes (L2.CX P w) (cxOf (L2.CX P w) P w K mg base N d.qual d.scope (He.fAd K d.at_) cdv A outer s H E) E →
      PassesOwn (model P w) (cxOf (L2.CX P w) P w K mg base N d.qual d.scope (He.fAd K d.at_) cdv A outer s H E).A (cxOf (L2.CX P w) P w K mg base N d.qual d.scope (He.fAd K d.at_) cdv A outer s H E).env (cxOf (L2.CX P w) P w K mg base N d.qual d.scope (He.fAd K d.at_) cdv A outer s H E).xe →
      sp vs H Q E → ∃ t, PSs (cxOf (L2.CX P w) P w K mg base N d.qual d.scope (He.fAd K d.at_) cdv A outer s H E) d.body t ∧ t { nx := fun _ H' => Q .non H', rt := Q } (L2.start N vs) H)
    (fd : FuncData) (F : FunD K d.name d.qual d.params d.body d.scope (d.dvs K) (d.kws K) (He.fAd K d.at_) fd) : FnOk P w K mg base (L2.CX P w) (k + 1) (He.fAd K d.at_) fd ps sp := by
  obtain ⟨oc, od, dV, kV, doc, pm, an, cdv, ct, osl, rfl, lk, hcd, _, _⟩ := F.ex
  obtain ⟨c, rfl⟩ := He.codeIn_ref hcd
  have ec : c = (He.cT K d.at_).1 := (He.codeOf_eq lk rfl).symm
  refine fn_of lk hcd S len fun A outer s H vs Q E hr hsp => ?_
  exact hb (.ref c) A outer s H vs Q E (by rw [ec]) hr (takes_of rfl rfl rfl rfl) (passes_call (takes_of rfl rfl rfl rfl) fun _ _ _ _ h => h) (passes_of rfl) hsp
end
section
variable {X : Cx} {k : Nat} {ps : List Str} {sp : Sp} {x : Str} {p pos : Pos} {e : Expr} {es : List Expr} {t : TA} {E : XK}
theorem s_call (F : FnS X.prog X.w X.K X.mg X.base (x, none) k ps sp) (hr : Room k X.A) (hg : Gl X x) (hm : X.mg x = some (.ref (He.ga X.K x))) (hx : Passes (L2.CX X.prog X.w) X E) (ha : PA X (e :: es) t) (hdb : (x == ("__debug__" : Str)) = false := by decide)
    (he : starEach (e :: es) X.env = (false, eval e X.env) :: starEach es X.env := by rfl) (hpl : (backTo pos (starEach es X.env)).any (·.1) = false := by rfl) : PE X (.Call (.Name x p) (e :: es) [] pos) (tCall sp [] E t) := by
  obtain ⟨fd, F1, hb⟩ := F.ex
  exact pe_call F1 hr hg hm F.kp hb .nil hx ha hdb he hpl
end
theorem rS_mono {g : Gr} {E : XK} {m : ST} {D D' : Ends} {σ : L2.St} {H : Hp} (hn : ∀ σ H, D.nx σ H → D'.nx σ H) (hr : ∀ v H, D.rt v H → D'.rt v H) (h : rS g E m D σ H) : rS g E m D' σ H := by
  obtain ⟨ρ, S, A, a, h⟩ := h
  refine ⟨ρ, S, A, a, h.imp fun ρ' f A' H' x m' hk => ?_⟩
  cases f with
  | nx S' => exact fun σ' s' => hn _ _ (hk σ' s')
  | rt w => exact fun v r => hr _ _ (hk v r)
theorem seq3 {g : Gr} {E : XK} {m0 m1 m2 : ST} {u : TS} {D : Ends} {σ : L2.St} {H : Hp} (h : rS g E (mSeq m0 (mSeq m1 m2)) { D with nx := u D } σ H) : tSeq (rS g E m0) (tSeq (rS g E m1) (tSeq (rS g E m2) u)) D σ H := by
  have h1 : rS g E m0 { D with nx := fun σ H => rS g E (mSeq m1 m2) { D with nx := u D } σ H } σ H := seq_of h
  show rS g E m0 { D with nx := fun σ H => rS g E m1 { D with nx := fun σ H => rS g E m2 { D with nx := u D } σ H } σ H } σ H
  refine rS_mono (D := { D with nx := fun σ H => rS g E (mSeq m1 m2) { D with nx := u D } σ H }) (fun σ H h => ?_) (fun _ _ h => h) h1
  exact seq_of (D := { D with nx := u D }) h
theorem ite_no {p q : Prop} (h : q) : if false = true then p else q := h
def spLaw' (K : PySem.W.Frag) : Sp := fun vs H Q _ => ∃ (a : Addr) (ns : List Int), vs = [.ref a] ∧ SqL K H a (ns.map V.int) ∧ (∀ p ∈ tf, H (He.cT K p).2 = some (.tbl #[])) ∧ ∀ H', Q (.bl true) H'
section
variable {P : Program} {w : World} {K : PySem.W.Frag} {mg : Str → Option Value} {base : Heap}
theorem start_M (hd : dist K = true) {H : Hp} (hT : ∀ p ∈ tf, H (He.cT K p).2 = some (.tbl #[])) : M (G K) [tabT K] [.raw (.tbl #[])] H := by
  obtain ⟨d1, d2, d3⟩ := dist_ok hd
  have ht : H (tabT K) = some (.tbl #[]) := hT triesAt (List.mem_of_getElem? (i := 24) (by rfl))
  have hr : H (He.cT K rowsAt).2 = some (.tbl #[]) := hT rowsAt (List.mem_of_getElem? (i := 12) (by rfl))
  refine ⟨by simp, rfl, fun k a o e h => ?_, fun Q hQ => ?_, fun k a ps e h => ?_, ⟨d1, #[], hr, trivial, fun pos cv z => by simp [codeAmong] at z⟩⟩
  · match k, e, h with
    | 0, e, h => cases e; cases h; exact ht
    | k + 1, e, h => cases e
  · obtain ⟨q, hq, rfl⟩ := List.mem_map.mp hQ
    refine ⟨#[], hT q ?_, trivial⟩
    rcases List.mem_append.mp hq with z | z
    · exact List.mem_of_mem_take z
    · exact List.mem_of_mem_drop (List.mem_of_mem_take z)
  · match k, e, h with
    | 0, e, h => cases e; exact ⟨d2, fun z => d3 (List.mem_singleton.mp z).symm⟩
    | k + 1, e, h => cases e
theorem ok_law (T : Gd K mg base) (hd : dist K = true) : ∀ fd, FunD K d_x_law.name d_x_law.qual d_x_law.params d_x_law.body d_x_law.scope (d_x_law.dvs K) (d_x_law.kws K) (He.fAd K d_x_law.at_) fd → FnOk P w K mg base (L2.CX P w) 12 (He.fAd K d_x_law.at_) fd ["_law_script"] (spLaw' K) := by
  refine T.funF (d := d_x_law) sc_law (fun vs H Q E h => by obtain ⟨_, _, rfl, _⟩ := h; rfl) fun cdv A outer s H vs Q E hcd hr tk hx hp hsp => ?_
  have hN := sc_law.nd
  obtain ⟨a, ns, rfl, hS, hT, hQ⟩ := hsp
  obtain ⟨d1, d2, d3⟩ := dist_ok hd
  refine ⟨_, pss_cons (ps_for hp rfl (pi_list (s_call (ok_law_roundsS T) (rm hr) rfl (T.glo 206) passNo (pa_cons (pe_var (i := 0) rfl (.inl rfl)) (pa_cons pe_int pa_nil)))) (pg_name (i := 1) hN rfl (.inl rfl))
    (pss_cons (t := rS (G K) E p_0) (dpar3 hN (d_cons (w_make (T.mkr 162) (ok_Market_init T) (rm hr) (glk (by kernel_rfl)) (by exact T.glo 163) hx (d_cons (d_lst (d_cons (d_tup (d_cons d_int (d_cons d_int d_nil))) (d_cons (d_tup (d_cons d_int (d_cons d_int d_nil))) d_nil))) (d_cons (d_lst (d_cons (d_tup (d_cons d_int (d_cons d_int d_nil))) (d_cons (d_tup (d_cons d_int (d_cons d_int d_nil))) d_nil))) (d_cons (d_lst (d_cons d_int (d_cons d_int d_nil))) d_nil)))) (d_cons (w_make0 (T.mkr 51) (ok_Fair_init T) (rm hr) (glk (by kernel_rfl)) (by exact T.glo 52) hx) (d_cons (w_make0 (T.mkr 252) (ok_Book_init T) (rm hr) (glk (by kernel_rfl)) (by exact T.glo 253) hx) d_nil)))) (pss_cons (t := rS (G K) E p_1) (d_sexpr (w_meth (c := 12) dv (T.cls 44) (T.meth 199) (ok_Fair_open_room T) (rm hr) hx (d_cons d_str (d_cons (d_tup (d_cons d_str (d_cons d_str d_nil))) (d_cons d_int d_nil))))) (pss_cons (t := rS (G K) E p_2) (d_sexpr (w_meth (c := 12) dv (T.cls 44) (T.meth 198) (ok_Fair_come T) (rm hr) hx (d_cons d_str (d_cons (d_tup (d_cons d_str d_nil)) d_nil))))
      (pss_cons (ps_set (i := 2) hN rfl (.inl rfl) (s_call (ok_law_tries T) (rm hr) rfl (T.glo 208) passNo (pa_cons (pe_var (i := 4) rfl (.inl rfl)) (pa_cons (pe_var (i := 5) rfl (.inl rfl)) (pa_cons (pe_var (i := 6) rfl (.inl rfl)) pa_nil)))))
        (pss_cons (ps_for hp rfl (pi_range1 rfl (T.free 31) (pa_cons pe_int pa_nil)) (pg_name (i := 3) hN rfl (.inl rfl))
          (pss_cons (t := rS (G K) E mAsgL) (d_sasg (d_ix dv (d_op op_mod (p_intC fun _ _ h => of_decide_eq_true h) (d_op op_addAll p_add (w_call (ok_law_roll T) (rm hr) (glk (by kernel_rfl)) (by exact T.glo 205) hx (d_cons dv (d_cons d_int d_nil))) (d_op op_mul p_mulS dv d_int)) d_int)) (d_gtup rfl (d_gcons (dgn hN) (d_gcons (dgn hN) d_gnil))))
            (pss_one (ps_if (pt_cmpR op_ne (s_call (ok_law_told T 8) (rm hr) rfl (T.glo 207) passNo (pa_cons (pe_var (i := 7) rfl (.inl rfl)) pa_nil)) (pe_var (i := 8) rfl (.inl rfl)) (nomark _)) (pss_one (ps_ret pe_bl)) pss_nil))))
          (pss_one (t := rS (G K) E mP5) (d_sif (PW.pt (d_or (d_tcmp (op_neD (hu64 hr)) p_ne (w_meth0 (c := 12) dv (T.cls 44) (T.meth 249) (ok_Fair_match T) (rm hr) hx) (d_tup (d_cons (d_tup (d_cons d_str (d_cons d_str d_nil))) d_nil))) (d_or (d_tcmp (op_neD (hu64 hr)) p_ne (w_meth0 (c := 12) dv (T.cls 44) (T.meth 250) (ok_Fair_names T) (rm hr) hx) (d_tup (d_cons (d_tup (d_cons d_str d_nil)) (d_cons (d_tup (d_cons d_str d_nil)) d_nil)))) (d_or (d_tcmp (op_neD (hu64 hr)) p_ne (d_fld (T.cls 134) (T.noat 136) dv) d_str) (d_or1 (d_tcmp (op_neD (hu64 hr)) p_ne (w_meth0 (c := 11) dv (T.cls 11) (T.meth 251) (ok_Market_shown T) (rm hr) hx) (d_tup (d_cons (d_tup (d_cons (d_tup (d_cons d_int (d_cons d_int d_nil))) (d_cons (d_tup (d_cons d_int (d_cons d_int d_nil))) d_nil))) (d_cons (d_tup (d_cons (d_tup (d_cons d_int (d_cons d_int d_nil))) (d_cons (d_tup (d_cons d_int (d_cons d_int d_nil))) d_nil))) (d_cons (d_tup (d_cons d_int (d_cons d_int d_nil))) d_nil)))))))))) d_noSs d_snil)))))))) (pss_one (ps_ret pe_bl)), ?_⟩
  have r_lst : ∀ {ρ : List Addr} {A : Hs} {H : Hp} {i k : Nat} {r d : Addr}, M (G K) ρ A H → ρ[i]? = some r → ρ[k]? = some d → A[i]? = some (.lst [.ref k]) → SqL K H r [.ref d] := fun m e1 e2 h => by
    obtain ⟨vs, rv, e⟩ := m.obj _ _ _ e1 h
    obtain ⟨v, rfl, d', rfl, ed⟩ := RVs.one rv
    rw [e2] at ed; cases ed
    exact .of e
  refine ⟨.ref a, rfl, a, ns, rfl, hS, start_M hd hT, fun r d x y z H1 m1 => ⟨r, rfl, ⟨[.ref d], r_lst m1 (i := 1) (k := 2) rfl rfl rfl⟩, ?_⟩⟩
  refine for_list (xs := [.ref d]) (fun i σ H => (i = 0 ∧ σ = L2.start nmsL [.ref a] ∧ M (G K) [tabT K, r, d] (heap0 x y z) H) ∨ (i = 1 ∧ SqL K H r [.ref d])) (.inl ⟨rfl, rfl, m1⟩) (fun i σ H hi h => ?_) (fun i v σ H hv h => ?_) (fun σ H _ => hQ H)
  · rcases h with ⟨_, _, m⟩ | ⟨_, h⟩
    · exact r_lst m (i := 1) (k := 2) rfl rfl rfl
    · exact h
  rcases h with ⟨rfl, rfl, m⟩ | ⟨rfl, _⟩
  · cases hv
    refine seq3 ⟨[tabT K, r, d], slots0, heap0 x y z, ⟨.cons trivial (.cons ⟨_, rfl, d, rfl, rfl⟩ (.cons trivial (.cons trivial (.cons trivial (.cons trivial (.cons trivial (.cons trivial (.cons trivial .nil)))))))), m⟩, ?_⟩
    have eB : mSeq p_0 (mSeq p_1 p_2) slots0 (heap0 x y z) = _ := resB_eq x y z
    rw [eB]
    intro ρ' H2 xt m2 σ1 sr
    obtain ⟨l, rfl⟩ := xt
    have mB : M (G K) (r :: d :: l) (heapB x y z) H2 := M.tail m2
    have srB : SR (r :: d :: l) slotsB σ1 := SR.tail sr
    have hT2 : H2 (tabT K) = some (.tbl #[]) := m2.obj 0 _ _ rfl rfl
    have hnot : tabT K ∉ r :: d :: l := (List.nodup_cons.mp m2.nd).1
    obtain ⟨_, e4, v0, rfl, r0⟩ := Paired.get2 srB (i := 4) (x := some (.ref 9)) rfl
    obtain ⟨_, e5, v1, rfl, r1⟩ := Paired.get2 srB (i := 5) (x := some (.ref 57)) rfl
    obtain ⟨_, e6, v2, rfl, r2⟩ := Paired.get2 srB (i := 6) (x := some (.ref 63)) rfl
    refine ⟨v0, e4, v1, e5, v2, e6, r :: d :: l, heapB x y z, v0, v1, v2, rfl, mB, hT2, hnot, d2, d3, fun n ds p H3 hds m3 hcel => ?_⟩
    have C : Ctx3 n ds (r :: d :: l) v0 v1 v2 := ⟨hds, by rw [mB.len, heapB_len], r0, r1, r2⟩
    generalize hρ : r :: d :: l = ρB at C m3 hcel srB
    have hlT := heapT_len x y z (coE ds) (loE n ds)
    have m4 : M (G K) (rhoT ds ρB p) (heapT x y z (coE ds) (loE n ds)) H3 := by
      unfold rhoT heapT
      rw [tri_eq hds (n := n)]
      rw [heapB_len, aOf_trip, lOf_lst, ds_len hds, List.append_assoc (heapB x y z)] at m3
      exact m3
    have cel : ∀ e ∈ cellL n v0 v1 v2, H3 e.1 = some (CelO e.1 e.2) := fun e he => (hcel e he).2
    have m5 : M (G K) (rhoT ds ρB p ++ csL n) (heapF n ds v0 v1 v2 x y z) H3 := m4.addR (os := celA n v0 v1 v2) (fun c hc => by
        rw [csL_eq (v0 := v0) (v1 := v1) (v2 := v2)] at hc
        obtain ⟨e, he, rfl⟩ := List.mem_map.mp hc
        exact (hcel e he).1) (cellL_nd n v0 v1 v2) (.cons ⟨cel (n + 1, v0) (by simp [cellL]), fun ps z => by unfold CelO at z; cases z⟩ (.cons ⟨cel (n + 1 + 1, v1) (by simp [cellL]), fun ps z => by unfold CelO at z; cases z⟩ (.cons ⟨cel (n + 1 + 1 + 1, v2) (by simp [cellL]), fun ps z => by unfold CelO at z; cases z⟩ .nil)))
    have hlF : ∀ a b c, (heapF n ds v0 v1 v2 a b c).length = 231 := fun a b c => by
      unfold heapF
      rw [List.length_append, heapT_len]; rfl
    have hlR : (rhoT ds ρB p ++ csL n).length = 231 := by rw [List.length_append, C.len]; rfl
    have ep : (rhoT ds ρB p ++ csL n)[227]? = some p := by
      have h0 : (ρB ++ rOf ds).length = 227 := by rw [List.length_append, C.hl, rOf_len, ds_len hds]
      unfold rhoT
      rw [List.append_assoc, List.getElem?_append_right (by omega), h0]; rfl
    have sr4 : SR (rhoT ds ρB p ++ csL n) (slotsL none none none) (σ1.set 2 (some (.ref p))) := by
      have z := (srB.ext (⟨rOf ds ++ [p] ++ csL n, by unfold rhoT; simp⟩ : Ext ρB (rhoT ds ρB p ++ csL n))).put (i := 2) (w := .ref 227) (v := .ref p) ⟨p, rfl, ep⟩
      exact z
    have er : (rhoT ds ρB p ++ csL n)[0]? = some r := by rw [← hρ]; rfl
    have ed : (rhoT ds ρB p ++ csL n)[1]? = some d := by rw [← hρ]; rfl
    refine ⟨12, rfl, by decide, by decide, for_range (lo := 0) (n := 12) (fun _ σ H => ∃ (a b c : Int) (x3 x7 x8 : Option W), At (G K) (rhoT ds ρB p ++ csL n) (slotsL x3 x7 x8) (heapF n ds v0 v1 v2 a b c) σ H) ⟨x, y, z, none, none, none, sr4, m5⟩ (fun i σ H hi h => ?_) (fun σ H h => ?_)⟩
    · obtain ⟨a, b, c, x3, x7, x8, at_⟩ := h
      obtain ⟨k, a', b', c', hk, ev⟩ := asg_eval (A := heapF n ds v0 v1 v2 a b c) (x3 := x3) (x7 := x7) (x8 := x8) (j := 0 + (i : Int)) (a := a) (b := b) (c := c)
        (by unfold heapF; rw [List.getElem?_append_left (by rw [heapT_len]; decide)]; exact heapT_dice ..) (by unfold heapF; rw [List.getElem?_append_left (by rw [heapT_len]; decide)]; exact heapT_lst ..) (fun k hk => heapT_tup hk)
      refine ⟨rhoT ds ρB p ++ csL n, slotsL (some (.int (0 + (i : Int)))) x7 x8, heapF n ds v0 v1 v2 a b c, ⟨at_.s.put (i := 3) (w := .int (0 + (i : Int))) (v := .int (0 + (i : Int))) rfl, at_.m⟩, ?_⟩
      rw [ev]
      intro ρ' H' xt m' σ' sr'
      obtain ⟨l', rfl⟩ := xt
      have hl' : l' = [] := by
        have := m'.len
        rw [List.length_append, hlR, List.length_set, hlF] at this
        exact List.length_eq_zero_iff.mp (by omega)
      subst hl'
      rw [List.append_nil] at m' sr'
      have eF : (heapF n ds v0 v1 v2 a b c).set 1 (.lst [.int a', .int b', .int c']) = heapF n ds v0 v1 v2 a' b' c' := by
        unfold heapF
        rw [List.set_append_left _ _ (by rw [heapT_len]; decide), heapT_set]
      rw [eF] at m'
      obtain ⟨_, e7, _, rfl, f, rfl, ef⟩ := Paired.get2 sr' (i := 7) (x := some (.ref (119 + 3 * k + 1))) rfl
      obtain ⟨_, e8, _, rfl, rfl⟩ := Paired.get2 sr' (i := 8) (x := some (.str (dueS k))) rfl
      have hf : f = (ds.getD k entD).f := by
        rw [show 119 + 3 * k + 1 = 119 + (3 * k + 1) by omega, rho_at C (by omega), rOf_1, ds_at hds hk] at ef
        exact (Option.some.inj ef).symm
      subst hf
      refine ⟨_, e7, _, rfl, tells_at T C hk m' fun H5 m6 => ⟨_, e8, rfl, _, rfl, ?_⟩⟩
      have fin : ∃ (a b c : Int) (x3 x7 x8 : Option W), At (G K) (rhoT ds ρB p ++ csL n) (slotsL x3 x7 x8) (heapF n ds v0 v1 v2 a b c) σ' H5 := ⟨a', b', c', _, _, _, sr', m6⟩
      have ef : (!decide (V.str (dueS k) = V.str (dueS k))) = false := by rw [decide_eq_true rfl]; rfl
      rw [ef]
      exact ite_no fin
    · obtain ⟨a, b, c, x3, x7, x8, at_⟩ := h
      refine ⟨rhoT ds ρB p ++ csL n, slotsL x3 x7 x8, heapF n ds v0 v1 v2 a b c, at_, ?_⟩
      have e : endOf (mP5 (slotsL x3 x7 x8) (heapF n ds v0 v1 v2 a b c)) = some (some (.lst [.ref 1])) := end_eval a b c x3 x7 x8 (coE ds) (loE n ds) (fun j => extF ((celA n v0 v1 v2).getD j (.lst [])))
      generalize mP5 (slotsL x3 x7 x8) (heapF n ds v0 v1 v2 a b c) = res at e ⊢
      cases res with
      | ok fl A' => cases fl with
        | nx S' =>
          have e : some A'[0]? = some (some (.lst [.ref 1])) := e
          intro ρ' H' xt m' σ' sr'
          exact .inr ⟨rfl, r_lst m' (i := 0) (k := 1) (xt.get er) (xt.get ed) (Option.some.inj e)⟩
        | rt w' => cases e
      | exc cn A' => cases e
      | bad => cases e
  · cases hv
end
end K33
set_option maxHeartbeats 0
namespace K33
open PySem PySem.Spec PyProof.Rows L2
/-! ## the end -/
theorem law_at {w : World} {mg : Str → Option Value} {fadr : Addr} {h : Heap} {K : PySem.W.Frag} (KX : K.In h) (c : He.SaysX fa fn [] tf dist w h K) (G : h.Ns mainGlobals mg) (hm : mg ("law" : Str) = some (.ref fadr)) (i j : Nat) (hi : fa[i]? = some (.glo "law")) (hj : fn[j]? = some d_x_law) :
    LamX.LawAtS PySem.Challenge.rw_pairmart_k33_each_refusal_apart w K (L2.CX (PySem.Challenge.rw_pairmart_k33_each_refusal_apart).prog w) 12 63 "_law_script" mg fadr h := by
  have S := c.t.d
  obtain ⟨fd, F⟩ := S.def_ j hj
  have e : fadr = He.fAd K d_x_law.at_ := by
    have := hm.symm.trans (He.glo_ok KX G (S.fact i hi))
    cases this
    rfl
  subst e
  refine ⟨fd, tf.map (He.cT K), spLaw' K, fun p hp => ?_, fun p hp => ?_, fun p hp => ?_, fun s u => ?_, fun H a ns hl hb hT hS => ?_, fun base hK hns hTB => ?_⟩
  · obtain ⟨q, hq, rfl⟩ := List.mem_map.mp hp
    exact c.empty q hq
  · obtain ⟨q, hq, rfl⟩ := List.mem_map.mp hp
    exact c.out q hq
  · obtain ⟨q, hq, rfl⟩ := List.mem_map.mp hp
    exact PySem.W.codeHd_of_K KX (c.hd q hq)
  · exact FunD.bindsA (ps := ["_law_script"]) F (fun _ _ _ _ _ _ us hl => match us, hl with | [_], _ => rfl) s [u] rfl
  · exact ⟨a, ns, rfl, hS, fun p hp => hT _ (List.mem_map.mpr ⟨p, hp, rfl⟩), fun _ => rfl⟩
  · refine ok_law (P := _) (w := w) (K := K) (mg := mg) (base := base) ⟨S, hK, hns, fun p hp => ?_⟩ c.more fd F
    have z := hTB _ (List.mem_map.mpr ⟨p, hp, rfl⟩)
    exact ⟨z.code, z.bm, z.gP⟩
end K33
open PySem PySem.W PySem.Calls PyProof.Rows
theorem PySem.Challenge.cw_pairmart_k33_each_refusal_apart_holds : PySem.Challenge.rw_pairmart_k33_each_refusal_apart.Holds := by
  w_on; o_law
  refine HandSHeadRun.head_any (r := OpenLaw.row PySem.Challenge.rw_pairmart_k33_each_refusal_apart) (q := K33.qv) (H := K33.hookC (K33.faA ++ K33.faB) K33.fn K33.tf K33.dist) (ob := K33.obG (K33.faA ++ K33.faB) K33.fn K33.tf K33.dist) (M := 11000) (loose := K33.names) (kwd := []) K33.obG_eq (by kernel_rfl) (fun s => by kernel_rfl) K33.run_all (by rfl) (by rfl) (by rfl) (by rfl) (by first | assumption | decide +kernel) (by decide +kernel) ⟨rfl, rfl, rfl, rfl, rfl, by decide +kernel⟩ ?hw ?hc
  case hw => w_witness2
  case hc =>
    refine LamX.walk_ofTsE (l := PySem.Challenge.rw_pairmart_k33_each_refusal_apart) (n := 63) (k := 12) (x := "_law_script") (CX := fun w => L2.CX (PySem.Challenge.rw_pairmart_k33_each_refusal_apart).prog w) rfl (by decide) (by kernel_rfl) ⟨rfl, by decide, by decide⟩ ?F ?hx
    case F =>
      intro w mg fadr h Y G hmg0
      obtain ⟨K, KX, c⟩ := Y
      exact ⟨K, KX, K33.law_at KX c G hmg0 209 104 (by rfl) (by rfl)⟩
    case hx =>
      intro w H s e s' z
      obtain ⟨_, _, _, _, _, _, _, _, _, _, _, _, z⟩ := z
      exact z
