import PyProof.Rows.All
import Wide.All
import OpenK.AllK
import Wide.FinOn
import KE.KStateDown
import HandS.ForMost
import HandS.Defaults
import HandS.Head0
import HandS.Head1
import HandS.Head2
import HandS.HeadEnd
import HandS.HeadHook4
import HandS.IsInst
import HandS.Deep
import HandS.Conv
import HandS.Style
import HandS.TupAny
import HandS.TupMul
import HandS.Strs
import HandS.Walk
import HandS.Zip
import HandS.SetBool
import HandS.Codes
import KE.DataFind
import KE.KDictDisplayH
import PySem.Challenge.RW_leastloss_k22_whole_judged
set_option Elab.async false
set_option linter.all false
set_option maxRecDepth 100000
set_option maxHeartbeats 0
/-! printed by gen_head.py: the head's facts by names, the top run in the kernel -/
namespace Lk
open PySem PySem.Spec PyProof.Rows L2
def top (i : Nat) : Stmt := PySem.Challenge.pw_leastloss_k22_whole_judged.main.body.getD i (.Pass ⟨0, 0, 0, 0⟩)
abbrev s_is_whole : Stmt := (top 12)
def d_is_whole : He.DefD := ⟨("is_whole", none), "is_whole", "is_whole", defArgs s_is_whole, defBody s_is_whole, defScope s_is_whole, [], []⟩
abbrev s_between : Stmt := (top 13)
def d_between : He.DefD := ⟨("between", none), "between", "between", defArgs s_between, defBody s_between, defScope s_between, [], []⟩
abbrev s_is_name : Stmt := (top 14)
def d_is_name : He.DefD := ⟨("is_name", none), "is_name", "is_name", defArgs s_is_name, defBody s_is_name, defScope s_is_name, [], []⟩
abbrev s_is_saying : Stmt := (top 15)
def d_is_saying : He.DefD := ⟨("is_saying", none), "is_saying", "is_saying", defArgs s_is_saying, defBody s_is_saying, defScope s_is_saying, [], []⟩
abbrev s_parts_of : Stmt := (top 16)
def d_parts_of : He.DefD := ⟨("parts_of", none), "parts_of", "parts_of", defArgs s_parts_of, defBody s_parts_of, defScope s_parts_of, [], []⟩
abbrev s_gathered : Stmt := (top 17)
def d_gathered : He.DefD := ⟨("gathered", none), "gathered", "gathered", defArgs s_gathered, defBody s_gathered, defScope s_gathered, [], []⟩
abbrev s_are_names : Stmt := (top 21)
def d_are_names : He.DefD := ⟨("are_names", none), "are_names", "are_names", defArgs s_are_names, defBody s_are_names, defScope s_are_names, [], []⟩
abbrev s_stands_free : Stmt := (top 22)
def d_stands_free : He.DefD := ⟨("stands_free", none), "stands_free", "stands_free", defArgs s_stands_free, defBody s_stands_free, defScope s_stands_free, [], []⟩
abbrev s_are_sayings : Stmt := (top 23)
def d_are_sayings : He.DefD := ⟨("are_sayings", none), "are_sayings", "are_sayings", defArgs s_are_sayings, defBody s_are_sayings, defScope s_are_sayings, [], []⟩
abbrev s_is_wish : Stmt := (top 24)
def d_is_wish : He.DefD := ⟨("is_wish", none), "is_wish", "is_wish", defArgs s_is_wish, defBody s_is_wish, defScope s_is_wish, [], []⟩
abbrev s_sayings_of : Stmt := (top 25)
def d_sayings_of : He.DefD := ⟨("sayings_of", none), "sayings_of", "sayings_of", defArgs s_sayings_of, defBody s_sayings_of, defScope s_sayings_of, [], []⟩
abbrev s_pieces_of : Stmt := (top 26)
def d_pieces_of : He.DefD := ⟨("pieces_of", none), "pieces_of", "pieces_of", defArgs s_pieces_of, defBody s_pieces_of, defScope s_pieces_of, [], []⟩
abbrev s_is_book : Stmt := (top 27)
def d_is_book : He.DefD := ⟨("is_book", none), "is_book", "is_book", defArgs s_is_book, defBody s_is_book, defScope s_is_book, [], []⟩
abbrev s_checked : Stmt := (top 28)
def d_checked : He.DefD := ⟨("checked", none), "checked", "checked", defArgs s_checked, defBody s_checked, defScope s_checked, [], []⟩
abbrev s_is_setting : Stmt := (top 30)
def d_is_setting : He.DefD := ⟨("is_setting", none), "is_setting", "is_setting", defArgs s_is_setting, defBody s_is_setting, defScope s_is_setting, [], []⟩
abbrev s_need_play : Stmt := (top 31)
def d_need_play : He.DefD := ⟨("need_play", none), "need_play", "need_play", defArgs s_need_play, defBody s_need_play, defScope s_need_play, [], []⟩
abbrev s_joined : Stmt := (top 32)
def d_joined : He.DefD := ⟨("joined", none), "joined", "joined", defArgs s_joined, defBody s_joined, defScope s_joined, [], []⟩
abbrev s_past_row : Stmt := (top 33)
def d_past_row : He.DefD := ⟨("past_row", none), "past_row", "past_row", defArgs s_past_row, defBody s_past_row, defScope s_past_row, [], []⟩
abbrev s_truth_row : Stmt := (top 34)
def d_truth_row : He.DefD := ⟨("truth_row", none), "truth_row", "truth_row", defArgs s_truth_row, defBody s_truth_row, defScope s_truth_row, [], []⟩
abbrev s_first_without : Stmt := (top 35)
def d_first_without : He.DefD := ⟨("first_without", none), "first_without", "first_without", defArgs s_first_without, defBody s_first_without, defScope s_first_without, [], []⟩
abbrev s_first_breaks : Stmt := (top 36)
def d_first_breaks : He.DefD := ⟨("first_breaks", none), "first_breaks", "first_breaks", defArgs s_first_breaks, defBody s_first_breaks, defScope s_first_breaks, [], []⟩
abbrev s_losses : Stmt := (top 37)
def d_losses : He.DefD := ⟨("losses", none), "losses", "losses", defArgs s_losses, defBody s_losses, defScope s_losses, [], []⟩
abbrev s_settings_of : Stmt := (top 39)
def d_settings_of : He.DefD := ⟨("settings_of", none), "settings_of", "settings_of", defArgs s_settings_of, defBody s_settings_of, defScope s_settings_of, [], []⟩
abbrev s_Teller_init : Stmt := (inClass (top 40) 0)
def d_Teller_init : He.DefD := ⟨("Teller", some "__init__"), "__init__", "Teller.__init__", defArgs s_Teller_init, defBody s_Teller_init, defScope s_Teller_init, [], []⟩
abbrev s_Teller_first : Stmt := (inClass (top 40) 1)
def d_Teller_first : He.DefD := ⟨("Teller", some "first"), "first", "Teller.first", defArgs s_Teller_first, defBody s_Teller_first, defScope s_Teller_first, [], []⟩
abbrev s_Teller_past : Stmt := (inClass (top 40) 2)
def d_Teller_past : He.DefD := ⟨("Teller", some "past"), "past", "Teller.past", defArgs s_Teller_past, defBody s_Teller_past, defScope s_Teller_past, [], []⟩
abbrev s_Teller_holds : Stmt := (inClass (top 40) 3)
def d_Teller_holds : He.DefD := ⟨("Teller", some "holds"), "holds", "Teller.holds", defArgs s_Teller_holds, defBody s_Teller_holds, defScope s_Teller_holds, [], []⟩
abbrev s_Teller_behind : Stmt := (inClass (top 40) 4)
def d_Teller_behind : He.DefD := ⟨("Teller", some "behind"), "behind", "Teller.behind", defArgs s_Teller_behind, defBody s_Teller_behind, defScope s_Teller_behind, [], []⟩
abbrev s_Teller_keeps : Stmt := (inClass (top 40) 5)
def d_Teller_keeps : He.DefD := ⟨("Teller", some "keeps"), "keeps", "Teller.keeps", defArgs s_Teller_keeps, defBody s_Teller_keeps, defScope s_Teller_keeps, [], []⟩
abbrev s_Teller_loss : Stmt := (inClass (top 40) 6)
def d_Teller_loss : He.DefD := ⟨("Teller", some "loss"), "loss", "Teller.loss", defArgs s_Teller_loss, defBody s_Teller_loss, defScope s_Teller_loss, [], []⟩
abbrev s_answers_to : Stmt := (top 41)
def d_answers_to : He.DefD := ⟨("answers_to", none), "answers_to", "answers_to", defArgs s_answers_to, defBody s_answers_to, defScope s_answers_to, [], []⟩
abbrev s_game_of : Stmt := (top 42)
def d_game_of : He.DefD := ⟨("game_of", none), "game_of", "game_of", defArgs s_game_of, defBody s_game_of, defScope s_game_of, [], []⟩
abbrev s_game : Stmt := (top 43)
def d_game : He.DefD := ⟨("game", none), "game", "game", defArgs s_game, defBody s_game, defScope s_game, [], []⟩
abbrev s_divisor : Stmt := (top 45)
def d_divisor : He.DefD := ⟨("divisor", none), "divisor", "divisor", defArgs s_divisor, defBody s_divisor, defScope s_divisor, [], []⟩
abbrev s_lowest : Stmt := (top 46)
def d_lowest : He.DefD := ⟨("lowest", none), "lowest", "lowest", defArgs s_lowest, defBody s_lowest, defScope s_lowest, [], []⟩
abbrev s_met_from : Stmt := (top 47)
def d_met_from : He.DefD := ⟨("met_from", none), "met_from", "met_from", defArgs s_met_from, defBody s_met_from, defScope s_met_from, [], []⟩
abbrev s_is_above : Stmt := (top 48)
def d_is_above : He.DefD := ⟨("is_above", none), "is_above", "is_above", defArgs s_is_above, defBody s_is_above, defScope s_is_above, [], []⟩
abbrev s_walked : Stmt := (top 49)
def d_walked : He.DefD := ⟨("walked", none), "walked", "walked", defArgs s_walked, defBody s_walked, defScope s_walked, [], []⟩
abbrev s_worst_of : Stmt := (top 50)
def d_worst_of : He.DefD := ⟨("worst_of", none), "worst_of", "worst_of", defArgs s_worst_of, defBody s_worst_of, defScope s_worst_of, [], []⟩
abbrev s_is_stand : Stmt := (top 53)
def d_is_stand : He.DefD := ⟨("is_stand", none), "is_stand", "is_stand", defArgs s_is_stand, defBody s_is_stand, defScope s_is_stand, [], []⟩
abbrev s_is_machine : Stmt := (top 54)
def d_is_machine : He.DefD := ⟨("is_machine", none), "is_machine", "is_machine", defArgs s_is_machine, defBody s_is_machine, defScope s_is_machine, [], []⟩
abbrev s_need_machine : Stmt := (top 55)
def d_need_machine : He.DefD := ⟨("need_machine", none), "need_machine", "need_machine", defArgs s_need_machine, defBody s_need_machine, defScope s_need_machine, [], []⟩
abbrev s_checked_machine : Stmt := (top 56)
def d_checked_machine : He.DefD := ⟨("checked_machine", none), "checked_machine", "checked_machine", defArgs s_checked_machine, defBody s_checked_machine, defScope s_checked_machine, [], []⟩
abbrev s_run : Stmt := (top 57)
def d_run : He.DefD := ⟨("run", none), "run", "run", defArgs s_run, defBody s_run, defScope s_run, [], []⟩
abbrev s_Judge_init : Stmt := (inClass (top 59) 0)
def d_Judge_init : He.DefD := ⟨("Judge", some "__init__"), "__init__", "Judge.__init__", defArgs s_Judge_init, defBody s_Judge_init, defScope s_Judge_init, [], []⟩
abbrev s_Judge_edge : Stmt := (inClass (top 59) 1)
def d_Judge_edge : He.DefD := ⟨("Judge", some "edge"), "edge", "Judge.edge", defArgs s_Judge_edge, defBody s_Judge_edge, defScope s_Judge_edge, [], []⟩
abbrev s_Judge_way : Stmt := (inClass (top 59) 2)
def d_Judge_way : He.DefD := ⟨("Judge", some "way"), "way", "Judge.way", defArgs s_Judge_way, defBody s_Judge_way, defScope s_Judge_way, [], []⟩
abbrev s_Judge_grow : Stmt := (inClass (top 59) 3)
def d_Judge_grow : He.DefD := ⟨("Judge", some "grow"), "grow", "Judge.grow", defArgs s_Judge_grow, defBody s_Judge_grow, defScope s_Judge_grow, [], []⟩
abbrev s_Judge_heights : Stmt := (inClass (top 59) 4)
def d_Judge_heights : He.DefD := ⟨("Judge", some "heights"), "heights", "Judge.heights", defArgs s_Judge_heights, defBody s_Judge_heights, defScope s_Judge_heights, [], []⟩
abbrev s_Judge_ring : Stmt := (inClass (top 59) 5)
def d_Judge_ring : He.DefD := ⟨("Judge", some "ring"), "ring", "Judge.ring", defArgs s_Judge_ring, defBody s_Judge_ring, defScope s_Judge_ring, [], []⟩
abbrev s_around : Stmt := (top 60)
def d_around : He.DefD := ⟨("around", none), "around", "around", defArgs s_around, defBody s_around, defScope s_around, [], []⟩
abbrev s_judged : Stmt := (top 61)
def d_judged : He.DefD := ⟨("judged", none), "judged", "judged", defArgs s_judged, defBody s_judged, defScope s_judged, [], []⟩
abbrev s_law_cell_at : Stmt := (top 63)
def d_law_cell_at : He.DefD := ⟨("_law_cell_at", none), "_law_cell_at", "_law_cell_at", defArgs s_law_cell_at, defBody s_law_cell_at, defScope s_law_cell_at, [], []⟩
abbrev s_law_mixed : Stmt := (top 64)
def d_law_mixed : He.DefD := ⟨("_law_mixed", none), "_law_mixed", "_law_mixed", defArgs s_law_mixed, defBody s_law_mixed, defScope s_law_mixed, [], []⟩
abbrev s_law_next : Stmt := (top 65)
def d_law_next : He.DefD := ⟨("_law_next", none), "_law_next", "_law_next", defArgs s_law_next, defBody s_law_next, defScope s_law_next, [], []⟩
abbrev s_law_names : Stmt := (top 66)
def d_law_names : He.DefD := ⟨("_law_names", none), "_law_names", "_law_names", defArgs s_law_names, defBody s_law_names, defScope s_law_names, [], []⟩
abbrev s_law_saying : Stmt := (top 67)
def d_law_saying : He.DefD := ⟨("_law_saying", none), "_law_saying", "_law_saying", defArgs s_law_saying, defBody s_law_saying, defScope s_law_saying, [], []⟩
abbrev s_law_promise : Stmt := (top 68)
def d_law_promise : He.DefD := ⟨("_law_promise", none), "_law_promise", "_law_promise", defArgs s_law_promise, defBody s_law_promise, defScope s_law_promise, [], []⟩
abbrev s_law_book : Stmt := (top 69)
def d_law_book : He.DefD := ⟨("_law_book", none), "_law_book", "_law_book", defArgs s_law_book, defBody s_law_book, defScope s_law_book, [], []⟩
abbrev s_law_settings : Stmt := (top 70)
def d_law_settings : He.DefD := ⟨("_law_settings", none), "_law_settings", "_law_settings", defArgs s_law_settings, defBody s_law_settings, defScope s_law_settings, [], []⟩
abbrev s_law_machine : Stmt := (top 71)
def d_law_machine : He.DefD := ⟨("_law_machine", none), "_law_machine", "_law_machine", defArgs s_law_machine, defBody s_law_machine, defScope s_law_machine, [], []⟩
abbrev s_law_product : Stmt := (top 72)
def d_law_product : He.DefD := ⟨("_law_product", none), "_law_product", "_law_product", defArgs s_law_product, defBody s_law_product, defScope s_law_product, [], []⟩
abbrev s_law_none_worse : Stmt := (top 73)
def d_law_none_worse : He.DefD := ⟨("_law_none_worse", none), "_law_none_worse", "_law_none_worse", defArgs s_law_none_worse, defBody s_law_none_worse, defScope s_law_none_worse, [], []⟩
abbrev s_law_whole : Stmt := (top 74)
def d_law_whole : He.DefD := ⟨("_law_whole", none), "_law_whole", "_law_whole", defArgs s_law_whole, defBody s_law_whole, defScope s_law_whole, [], []⟩
abbrev s_law_is_mean : Stmt := (top 75)
def d_law_is_mean : He.DefD := ⟨("_law_is_mean", none), "_law_is_mean", "_law_is_mean", defArgs s_law_is_mean, defBody s_law_is_mean, defScope s_law_is_mean, [], []⟩
abbrev s_law_is_endless : Stmt := (top 76)
def d_law_is_endless : He.DefD := ⟨("_law_is_endless", none), "_law_is_endless", "_law_is_endless", defArgs s_law_is_endless, defBody s_law_is_endless, defScope s_law_is_endless, [], []⟩
abbrev s_law_has_ring : Stmt := (top 77)
def d_law_has_ring : He.DefD := ⟨("_law_has_ring", none), "_law_has_ring", "_law_has_ring", defArgs s_law_has_ring, defBody s_law_has_ring, defScope s_law_has_ring, [], []⟩
abbrev s_law_rings : Stmt := (top 78)
def d_law_rings : He.DefD := ⟨("_law_rings", none), "_law_rings", "_law_rings", defArgs s_law_rings, defBody s_law_rings, defScope s_law_rings, [], []⟩
abbrev s_law : Stmt := (top 79)
def d_law : He.DefD := ⟨("law", none), "law", "law", defArgs s_law, defBody s_law, defScope s_law, [], []⟩
def fn : List He.DefD := [d_is_whole, d_between, d_is_name, d_is_saying, d_parts_of, d_gathered, d_are_names, d_stands_free, d_are_sayings, d_is_wish, d_sayings_of, d_pieces_of, d_is_book, d_checked, d_is_setting, d_need_play, d_joined, d_past_row, d_truth_row, d_first_without, d_first_breaks, d_losses, d_settings_of, d_Teller_init, d_Teller_first, d_Teller_past, d_Teller_holds, d_Teller_behind, d_Teller_keeps, d_Teller_loss, d_answers_to, d_game_of, d_game, d_divisor, d_lowest, d_met_from, d_is_above, d_walked, d_worst_of, d_is_stand, d_is_machine, d_need_machine, d_checked_machine, d_run, d_Judge_init, d_Judge_edge, d_Judge_way, d_Judge_grow, d_Judge_heights, d_Judge_ring, d_around, d_judged, d_law_cell_at, d_law_mixed, d_law_next, d_law_names, d_law_saying, d_law_promise, d_law_book, d_law_settings, d_law_machine, d_law_product, d_law_none_worse, d_law_whole, d_law_is_mean, d_law_is_endless, d_law_has_ring, d_law_rings, d_law]
def fa0 : List He.Fa := [.glo "is_whole", .glo "between", .glo "is_name", .glo "is_saying", .glo "parts_of", .glo "gathered", .glo "are_names", .glo "stands_free", .glo "are_sayings", .glo "is_wish", .glo "sayings_of", .glo "pieces_of", .glo "is_book", .glo "checked", .glo "is_setting", .glo "need_play", .glo "joined", .glo "past_row", .glo "truth_row", .glo "first_without", .glo "first_breaks", .glo "losses", .glo "settings_of", .glo "answers_to", .glo "game_of", .glo "game", .glo "divisor", .glo "lowest", .glo "met_from", .glo "is_above"]
def fa1 : List He.Fa := [.glo "walked", .glo "worst_of", .glo "is_stand", .glo "is_machine", .glo "need_machine", .glo "checked_machine", .glo "run", .glo "around", .glo "judged", .glo "_law_cell_at", .glo "_law_mixed", .glo "_law_next", .glo "_law_names", .glo "_law_saying", .glo "_law_promise", .glo "_law_book", .glo "_law_settings", .glo "_law_machine", .glo "_law_product", .glo "_law_none_worse", .glo "_law_whole", .glo "_law_is_mean", .glo "_law_is_endless", .glo "_law_has_ring", .glo "_law_rings", .glo "law", .glo "Teller", .cls "Teller", .mkr "Teller", .noat "Teller" "book"]
def fa2 : List He.Fa := [.noat "Teller" "names", .noat "Teller" "pieces", .meth "Teller" "first", .meth "Teller" "past", .meth "Teller" "holds", .meth "Teller" "behind", .meth "Teller" "keeps", .meth "Teller" "loss", .glo "Judge", .cls "Judge", .mkr "Judge", .noat "Judge" "nodes", .noat "Judge" "machine", .noat "Judge" "order", .noat "Judge" "pairs", .noat "Judge" "graph", .noat "Judge" "sets", .noat "Judge" "ahead", .meth "Judge" "edge", .meth "Judge" "way", .meth "Judge" "grow", .meth "Judge" "heights", .meth "Judge" "ring", .free "len", .free "isinstance", .free "all", .free "any", .free "int", .free "bool", .free "str"]
def fa3 : List He.Fa := [.free "tuple", .free "list", .free "range", .free "sum", .free "max", .free "zip", .glo "WORDS", .glo "SINGLE", .glo "DOUBLE", .glo "PAST", .str "LETTERS" "abcdefghijklmnopqrstuvwxyz", .int "DEPTH" 8, .int "PIECES" 4, .int "PRICE" 99, .int "STANDS" 64]
def fa : List He.Fa := fa0 ++ fa1 ++ fa2 ++ fa3
def cWORDS : List He.Dv := [.str "yes", .str "no", .str "not", .str "and", .str "or", .str "then", .str "same", .str "before", .str "once", .str "sofar", .str "since", .str "foe", .str "friend", .str "promise", .str "must", .str "wish"]
def cSINGLE : List He.Dv := [.str "not", .str "before", .str "once", .str "sofar"]
def cDOUBLE : List He.Dv := [.str "and", .str "or", .str "then", .str "same", .str "since"]
def cPAST : List He.Dv := [.str "before", .str "once", .str "sofar", .str "since"]
def exB (K : PySem.W.Frag) : Bool := He.tupB K "WORDS" cWORDS && He.tupB K "SINGLE" cSINGLE && He.tupB K "DOUBLE" cDOUBLE && He.tupB K "PAST" cPAST
def lo0 : List Str := ["LossError", "NoBook", "NoPlay", "NoMachine", "WORDS", "SINGLE", "DOUBLE", "PAST", "LETTERS", "DEPTH", "is_whole", "between", "is_name", "is_saying", "parts_of", "gathered", "PIECES", "PRICE", "are_names", "stands_free", "are_sayings", "is_wish", "sayings_of", "pieces_of", "is_book", "checked", "is_setting", "need_play", "joined", "past_row"]
def lo1 : List Str := ["truth_row", "first_without", "first_breaks", "losses", "settings_of", "Teller", "answers_to", "game_of", "game", "divisor", "lowest", "met_from", "is_above", "walked", "worst_of", "STANDS", "is_stand", "is_machine", "need_machine", "checked_machine", "run", "Judge", "around", "judged", "_law_cell_at", "_law_mixed", "_law_next", "_law_names", "_law_saying", "_law_promise"]
def lo2 : List Str := ["_law_book", "_law_settings", "_law_machine", "_law_product", "_law_none_worse", "_law_whole", "_law_is_mean", "_law_is_endless", "_law_has_ring", "_law_rings"]
def loose : List Str := lo0 ++ lo1 ++ lo2
abbrev R : PySem.W.OpenRow := PySem.W.OpenLaw.row PySem.Challenge.rw_leastloss_k22_whole_judged
abbrev hk : PySem.W.Hook := He.hookX 5 fa fn [] [] exB
def ob (s : PySem.W.SharedT) : He.AlX := He.obsX 5 fa fn [] [] exB (HandSHeadRun.getT s)
theorem ob_eq (s : PySem.W.SharedT) : ob s = hk.obs s.abs := He.obsX_eq (HandSHeadRun.getT_eq s)
abbrev qv : Program := PySem.W.view R.prog [79]
theorem run (w : World) : HandSHeadRun.RunEq R qv hk ob 4000 loose w := by
  intro os
  kernel_rfl
end Lk
set_option maxHeartbeats 4000000
namespace Lk
open PySem PySem.Spec PyProof.Rows L2
/-- all that the head tells -/
structure Hd (K : PySem.W.Frag) (mg : Str → Option Value) : Prop where
  defs : ∀ (i : Nat) (d : He.DefD), fn[i]? = some d → ∃ fd, FunD K d.name d.qual d.params d.body d.scope (d.dvs K) (d.kws K) (He.fAd K d.at_) fd
  facts : ∀ (i : Nat) (f : He.Fa), fa[i]? = some f → f.ok K = true
  glo : ∀ (i : Nat) (x : Str), fa[i]? = some (.glo x) → mg x = some (.ref (He.ga K x))
  free : ∀ (i : Nat) (x : Str), fa[i]? = some (.free x) → mg x = none
  int_ : ∀ (i : Nat) (x : Str) (z : Int), fa[i]? = some (.int x z) → ∃ t, mg x = some (.int z t)
  str_ : ∀ (i : Nat) (x z : Str), fa[i]? = some (.str x z) → ∃ t, mg x = some (.str z t)
  tups : exB K = true

/-! ### a def, a method, a class, as callers know them -/
section
variable (P : Program) (w : World) (K : PySem.W.Frag) (mg : Str → Option Value) (base : Heap)
structure OkG (x : Str) (ps : List Str) (lv : Nat) (sp : Sp) : Prop where
  glo : mg x = some (.ref (He.ga K x))
  kp : PySem.W.keepIn K (.ref (He.ga K x)) = true
  fn : ∃ fd, FnOk P w K mg base CX0 lv (He.ga K x) fd ps sp ∧ Binds K fd ps []
structure OkM (C m : Str) (ps : List Str) (lv : Nat) (sp : Sp) : Prop where
  cl : Cls K (He.ga K C)
  mt : Meth K (He.ga K C) m (He.ma K (He.ga K C) m)
  fn : ∃ fd, FnOk P w K mg base CX0 lv (He.ma K (He.ga K C) m) fd ps sp ∧ Binds K fd ps []
structure OkC (C : Str) (ps : List Str) (lv : Nat) (sp : Sp) : Prop where
  glo : mg C = some (.ref (He.ga K C))
  mkr : Mk K (He.ga K C) (He.ma K (He.ga K C) "__init__")
  fn : ∃ fd, FnOk P w K mg base CX0 lv (He.ma K (He.ga K C) "__init__") fd ps sp ∧ Binds K fd ps []
end
section
variable {X : Cx} {x C m : Str} {ps : List Str} {lv k : Nat} {sp : Sp} {e o : Expr} {es : List Expr} {p pos apos : Pos} {t : TA} {ta : TE}
theorem pe_cl (h : OkG X.prog X.w X.K X.mg X.base x ps lv sp) (hr : Room k X.A) (ha : PA X (e :: es) t) (hk : lv ≤ k := by first | decide | omega) (hg : Gl X x := by rfl)
    (hdb : (x == ("__debug__" : Str)) = false := by decide) (he : starEach (e :: es) X.env = (false, eval e X.env) :: starEach es X.env := by rfl) (hpl : (backTo pos (starEach es X.env)).any (·.1) = false := by rfl) :
    PE X (.Call (.Name x p) (e :: es) [] pos) (tCall sp [] E0 t) := by
  obtain ⟨fd, F, b⟩ := h.fn
  exact pe_call F (hr.mono hk) hg h.glo h.kp b .nil pass0 ha hdb he hpl
theorem pe_mt {pl : Sem Bool} (ho : PE X o ta) (h : OkM X.prog X.w X.K X.mg X.base C m ps lv sp) (hr : Room k X.A) (ha : PA X (e :: es) t) (hk : lv ≤ k := by first | decide | omega)
    (hst : starEach (e :: es) X.env = (false, eval e X.env) :: starEach es X.env := by rfl) (hpl : (backTo pos (starEach es X.env)).any (·.1) = false := by rfl)
    (ht : eval (.Call (.Attribute o m apos) (e :: es) [] pos) X.env = (do
      let ov ← eval o X.env
      standAt apos.atName
      let (f, first) ← holding [ov] (getMethod ov m pl)
      callWith pos f first (backTo pos (starEach (e :: es) X.env)) (backToKw pos (keywordEach [] X.env))) := by rfl) :
    PE X (.Call (.Attribute o m apos) (e :: es) [] pos) (tMeth (He.ga X.K C) m sp [] E0 ta t) := by
  obtain ⟨fd, F, b⟩ := h.fn
  exact pe_meth ho h.cl h.mt F (hr.mono hk) b .nil pass0 ha hst hpl ht
theorem pe_mt0 {pl : Sem Bool} (ho : PE X o ta) (h : OkM X.prog X.w X.K X.mg X.base C m ps lv sp) (hr : Room k X.A) (hk : lv ≤ k := by first | decide | omega)
    (ht : eval (.Call (.Attribute o m apos) [] [] pos) X.env = (do
      let ov ← eval o X.env
      standAt apos.atName
      let (f, first) ← holding [ov] (getMethod ov m pl)
      callWith pos f first (backTo pos (starEach [] X.env)) (backToKw pos (keywordEach [] X.env))) := by rfl) :
    PE X (.Call (.Attribute o m apos) [] [] pos) (tMeth (He.ga X.K C) m sp [] E0 ta tNil) := by
  obtain ⟨fd, F, b⟩ := h.fn
  exact pe_meth0 ho h.cl h.mt F (hr.mono hk) b .nil pass0 ht
theorem pe_mk (h : OkC X.prog X.w X.K X.mg X.base x ps lv sp) (hr : Room k X.A) (ha : PA X (e :: es) t) (hk : lv + 1 ≤ k := by first | decide | omega) (hg : Gl X x := by rfl)
    (hdb : (x == ("__debug__" : Str)) = false := by decide) (he : starEach (e :: es) X.env = (false, eval e X.env) :: starEach es X.env := by rfl) (hpl : (backTo pos (starEach es X.env)).any (·.1) = false := by rfl) :
    PE X (.Call (.Name x p) (e :: es) [] pos) (tMake (He.ga X.K x) sp [] E0 t) := by
  obtain ⟨fd, F, b⟩ := h.fn
  exact pe_make h.mkr F (hr.mono hk) hg h.glo b .nil pass0 ha hdb he hpl
theorem hu64 {A : Around} {k : Nat} (hr : Room k A) : A.units + 64 < cLine := by have := hr.un; omega
theorem hu65 {A : Around} {k : Nat} (hr : Room k A) : A.units + 65 < cLine := by have := hr.un; omega
end

/-! ### tuples stand for ever -/
def TupX (K : PySem.W.Frag) (H H' : Hp) : Prop := ∀ a xs, SqT K H a xs → SqT K H' a xs
section
variable {K : PySem.W.Frag} {H H' H1 H2 : Hp} {a p : Addr} {xs ys : List V} {o u : HO}
theorem TupX.refl : TupX K H H := fun _ _ h => h
theorem TupX.trans (h1 : TupX K H H1) (h2 : TupX K H1 H2) : TupX K H H2 := fun a xs h => h2 a xs (h1 a xs h)
theorem sqt_same (e : Same H H') (h : SqT K H a xs) : SqT K H' a xs := by
  rcases h with (h | ⟨o, h⟩) | h
  · exact .inl (.inl (e _ _ h))
  · exact .inl (.inr ⟨o, e _ _ h⟩)
  · exact .inr h
theorem TupX.same (e : Same H H') : TupX K H H' := fun _ _ h => sqt_same e h
theorem sqt_up (n : ∀ zs, ¬ Rd H p (.tup zs)) (h : SqT K H a xs) : SqT K (upd H p o) a xs := by
  rcases h with (h | ⟨q, h⟩) | h
  · refine .inl (.inl ?_)
    rw [upd_ne]
    · exact h
    · rintro rfl
      exact n xs (.inl h)
  · refine .inl (.inr ⟨q, ?_⟩)
    rw [upd_ne]
    · exact h
    · rintro rfl
      exact n xs (.inr ⟨q, h⟩)
  · exact .inr h
theorem nt_none (h : H p = none) : ∀ zs, ¬ Rd H p (.tup zs) := by
  rintro zs (q | ⟨o, q⟩) <;> rw [h] at q <;> cases q
theorem nt_lst (h : H p = some (.lst ys)) : ∀ zs, ¬ Rd H p (.tup zs) := by
  rintro zs (q | ⟨o, q⟩) <;> rw [h] at q <;> cases q
theorem nt_dK {kvs : List (Key × V)} (h : H p = some (.dK kvs)) : ∀ zs, ¬ Rd H p (.tup zs) := by
  rintro zs (q | ⟨o, q⟩) <;> rw [h] at q <;> cases q
theorem nt_ext {f : Heap → Prop} (h : H p = some (.ext f)) : ∀ zs, ¬ Rd H p (.tup zs) := by
  rintro zs (q | ⟨o, q⟩) <;> rw [h] at q <;> cases q
theorem nt_ins {C dx : Addr} {fs : List (Str × V)} (h : H p = some (.ins C dx fs)) : ∀ zs, ¬ Rd H p (.tup zs) := by
  rintro zs (q | ⟨o, q⟩) <;> rw [h] at q <;> cases q
theorem sqt_new (hp : H p = none) (h : SqT K H a xs) : SqT K (upd H p o) a xs := sqt_up (nt_none hp) h
theorem sqt_lst (hp : H p = some (.lst ys)) (h : SqT K H a xs) : SqT K (upd H p o) a xs := sqt_up (nt_lst hp) h
theorem TupX.new (hp : H p = none) : TupX K H (upd H p o) := fun _ _ h => sqt_new hp h
theorem TupX.lst (hp : H p = some (.lst ys)) : TupX K H (upd H p o) := fun _ _ h => sqt_lst hp h
theorem TupX.up (n : ∀ zs, ¬ Rd H p (.tup zs)) : TupX K H (upd H p o) := fun _ _ h => sqt_up n h
theorem same_new (h : H p = none) : Same H (upd H p o) := fun b u q => by rw [upd_ne (ne_of_none q h)]; exact q
/-- an object that H does not know may change -/
theorem same_mut (e : Same H H') (h : H p = none) : Same H (upd H' p o) := fun b u q => by rw [upd_ne (ne_of_none q h)]; exact e b u q
theorem get_new (hp : H p = none) (h : H a = some u) : upd H p o a = some u := by rw [upd_ne (ne_of_none h hp)]; exact h
theorem get_ne (ne : a ≠ p) (h : H a = some u) : upd H p o a = some u := by rw [upd_ne ne]; exact h
theorem non_ne (ne : a ≠ p) (h : H a = none) : upd H p o a = none := by rw [upd_ne ne]; exact h
theorem get_same (e : Same H H') (h : H a = some u) : H' a = some u := e _ _ h
theorem sql_new (hp : H p = none) (h : SqL K H a xs) : SqL K (upd H p o) a xs := (same_new hp).seq h
theorem sql_ne (ne : a ≠ p) (h : SqL K H a xs) : SqL K (upd H p o) a xs := by
  rcases h with (h | ⟨q, h⟩) | h
  · exact .inl (.inl (get_ne ne h))
  · exact .inl (.inr ⟨q, get_ne ne h⟩)
  · exact .inr h
end

/-! ### data made of tuples -/
mutual
inductive TD (K : PySem.W.Frag) (H : Hp) : V → PyData → Prop
  | non : TD K H .non .none
  | bl (b : Bool) : TD K H (.bl b) (.bool b)
  | int (i : Int) : TD K H (.int i) (.int i)
  | str (x : Str) : TD K H (.str x) (.str x)
  | tup {a : Addr} {xs : List V} {ds : List PyData} : SqT K H a xs → TDs K H xs ds → TD K H (.ref a) (.tuple ds)
inductive TDs (K : PySem.W.Frag) (H : Hp) : List V → List PyData → Prop
  | nil : TDs K H [] []
  | cons {v : V} {vs : List V} {d : PyData} {ds : List PyData} : TD K H v d → TDs K H vs ds → TDs K H (v :: vs) (d :: ds)
end
section
variable {K : PySem.W.Frag} {H H' : Hp}
mutual
theorem TD.dp : ∀ {v : V} {d : PyData}, TD K H v d → Dp K H v d
  | _, _, .non => .non
  | _, _, .bl b => .bl b
  | _, _, .int i => .int i
  | _, _, .str x => .str x
  | _, _, .tup h r => .tup h (TDs.dp r)
theorem TDs.dp : ∀ {vs : List V} {ds : List PyData}, TDs K H vs ds → DpAll K H vs ds
  | _, _, .nil => .nil
  | _, _, .cons h r => .cons (TD.dp h) (TDs.dp r)
end
mutual
theorem TD.mono (e : TupX K H H') : ∀ {v : V} {d : PyData}, TD K H v d → TD K H' v d
  | _, _, .non => .non
  | _, _, .bl b => .bl b
  | _, _, .int i => .int i
  | _, _, .str x => .str x
  | _, _, .tup h r => .tup (e _ _ h) (TDs.mono e r)
theorem TDs.mono (e : TupX K H H') : ∀ {vs : List V} {ds : List PyData}, TDs K H vs ds → TDs K H' vs ds
  | _, _, .nil => .nil
  | _, _, .cons h r => .cons (TD.mono e h) (TDs.mono e r)
end
variable {v : V} {vs : List V} {d : PyData} {ds : List PyData}
theorem TD.tup_inv (h : TD K H v (.tuple ds)) : ∃ a xs, v = .ref a ∧ SqT K H a xs ∧ TDs K H xs ds := by
  cases h with
  | tup h r => exact ⟨_, _, rfl, h, r⟩
theorem TD.int_inv {i : Int} (h : TD K H v (.int i)) : v = .int i := by cases h; rfl
theorem TD.bl_inv {b : Bool} (h : TD K H v (.bool b)) : v = .bl b := by cases h; rfl
theorem TD.str_inv {x : Str} (h : TD K H v (.str x)) : v = .str x := by cases h; rfl
theorem TD.non_inv (h : TD K H v .none) : v = .non := by cases h; rfl
theorem TDs.cons_inv (h : TDs K H vs (d :: ds)) : ∃ x xs, vs = x :: xs ∧ TD K H x d ∧ TDs K H xs ds := by
  cases h with
  | cons a b => exact ⟨_, _, rfl, a, b⟩
theorem TDs.nil_inv (h : TDs K H vs []) : vs = [] := by cases h; rfl
theorem TD.t1 {d1 : PyData} (h : TD K H v (.tuple [d1])) : ∃ a x, v = .ref a ∧ SqT K H a [x] ∧ TD K H x d1 := by
  obtain ⟨a, xs, rfl, hT, hs⟩ := h.tup_inv
  obtain ⟨x, xs, rfl, h1, hs⟩ := hs.cons_inv
  cases hs.nil_inv
  exact ⟨_, _, rfl, hT, h1⟩
theorem TD.t2 {d1 d2 : PyData} (h : TD K H v (.tuple [d1, d2])) : ∃ a x y, v = .ref a ∧ SqT K H a [x, y] ∧ TD K H x d1 ∧ TD K H y d2 := by
  obtain ⟨a, xs, rfl, hT, hs⟩ := h.tup_inv
  obtain ⟨x, xs, rfl, h1, hs⟩ := hs.cons_inv
  obtain ⟨y, xs, rfl, h2, hs⟩ := hs.cons_inv
  cases hs.nil_inv
  exact ⟨_, _, _, rfl, hT, h1, h2⟩
theorem TD.t3 {d1 d2 d3 : PyData} (h : TD K H v (.tuple [d1, d2, d3])) : ∃ a x y z, v = .ref a ∧ SqT K H a [x, y, z] ∧ TD K H x d1 ∧ TD K H y d2 ∧ TD K H z d3 := by
  obtain ⟨a, xs, rfl, hT, hs⟩ := h.tup_inv
  obtain ⟨x, xs, rfl, h1, hs⟩ := hs.cons_inv
  obtain ⟨y, xs, rfl, h2, hs⟩ := hs.cons_inv
  obtain ⟨z, xs, rfl, h3, hs⟩ := hs.cons_inv
  cases hs.nil_inv
  exact ⟨_, _, _, _, rfl, hT, h1, h2, h3⟩
theorem TD.t5 {d1 d2 d3 d4 d5 : PyData} (h : TD K H v (.tuple [d1, d2, d3, d4, d5])) : ∃ a x1 x2 x3 x4 x5, v = .ref a ∧ SqT K H a [x1, x2, x3, x4, x5] ∧ TD K H x1 d1 ∧ TD K H x2 d2 ∧ TD K H x3 d3 ∧ TD K H x4 d4 ∧ TD K H x5 d5 := by
  obtain ⟨a, xs, rfl, hT, hs⟩ := h.tup_inv
  obtain ⟨x, xs, rfl, h1, hs⟩ := hs.cons_inv
  obtain ⟨y, xs, rfl, h2, hs⟩ := hs.cons_inv
  obtain ⟨z, xs, rfl, h3, hs⟩ := hs.cons_inv
  obtain ⟨y4, xs, rfl, h4, hs⟩ := hs.cons_inv
  obtain ⟨y5, xs, rfl, h5, hs⟩ := hs.cons_inv
  cases hs.nil_inv
  exact ⟨_, _, _, _, _, _, rfl, hT, h1, h2, h3, h4, h5⟩
theorem TDs.length : ∀ {vs : List V} {ds : List PyData}, TDs K H vs ds → vs.length = ds.length
  | _, _, .nil => rfl
  | _, _, .cons _ r => by rw [List.length_cons, List.length_cons, TDs.length r]
theorem TDs.get : ∀ {vs : List V} {ds : List PyData} {i : Nat} {d : PyData}, TDs K H vs ds → ds[i]? = some d → ∃ v, vs[i]? = some v ∧ TD K H v d
  | _, _, 0, _, .cons a _, e => by cases e; exact ⟨_, rfl, a⟩
  | _, _, i + 1, _, .cons _ r, e => by
    obtain ⟨v, h1, h2⟩ := TDs.get (i := i) r (by simpa using e)
    exact ⟨v, by simpa using h1, h2⟩
theorem TDs.at : ∀ {vs : List V} {ds : List PyData} {i : Nat} {v : V}, TDs K H vs ds → vs[i]? = some v → ∃ d, ds[i]? = some d ∧ TD K H v d
  | _, _, 0, _, .cons a _, e => by cases e; exact ⟨_, rfl, a⟩
  | _, _, i + 1, _, .cons _ r, e => by
    obtain ⟨v, h1, h2⟩ := TDs.at (i := i) r (by simpa using e)
    exact ⟨v, by simpa using h1, h2⟩
theorem TDs.append : ∀ {vs ws : List V} {ds es : List PyData}, TDs K H vs ds → TDs K H ws es → TDs K H (vs ++ ws) (ds ++ es)
  | _, _, _, _, .nil, s => s
  | _, _, _, _, .cons a r, s => .cons a (TDs.append r s)
theorem TDs.one (h : TD K H v d) : TDs K H [v] [d] := .cons h .nil
theorem TDs.two {v2 : V} {d2 : PyData} (h : TD K H v d) (h2 : TD K H v2 d2) : TDs K H [v, v2] [d, d2] := .cons h (.cons h2 .nil)
theorem TDs.three {v2 v3 : V} {d2 d3 : PyData} (h : TD K H v d) (h2 : TD K H v2 d2) (h3 : TD K H v3 d3) : TDs K H [v, v2, v3] [d, d2, d3] := .cons h (.cons h2 (.cons h3 .nil))
theorem TDs.drop : ∀ {vs : List V} {ds : List PyData} (n : Nat), TDs K H vs ds → TDs K H (vs.drop n) (ds.drop n)
  | _, _, 0, r => r
  | _, _, _ + 1, .nil => .nil
  | _, _, n + 1, .cons _ t => TDs.drop n t
theorem TDs.take : ∀ {vs : List V} {ds : List PyData} (n : Nat), TDs K H vs ds → TDs K H (vs.take n) (ds.take n)
  | _, _, 0, _ => .nil
  | _, _, _ + 1, .nil => .nil
  | _, _, n + 1, .cons r t => .cons r (TDs.take n t)
theorem TDs.ints : ∀ {ns : List Int}, TDs K H (ns.map V.int) (ns.map PyData.int)
  | [] => .nil
  | n :: _ => .cons (.int n) TDs.ints
theorem TDs.bls : ∀ {ns : List Bool}, TDs K H (ns.map V.bl) (ns.map PyData.bool)
  | [] => .nil
  | n :: _ => .cons (.bl n) TDs.bls
theorem TDs.strs : ∀ {ns : List Str}, TDs K H (ns.map V.str) (ns.map PyData.str)
  | [] => .nil
  | n :: _ => .cons (.str n) TDs.strs
theorem TDs.bls_inv : ∀ {ns : List Bool} {vs : List V}, TDs K H vs (ns.map PyData.bool) → vs = ns.map V.bl
  | [], _, h => h.nil_inv
  | n :: ns, _, h => by
    obtain ⟨x, xs, rfl, h1, h2⟩ := h.cons_inv
    rw [h1.bl_inv, TDs.bls_inv h2]
    rfl
theorem TDs.strs_inv : ∀ {ns : List Str} {vs : List V}, TDs K H vs (ns.map PyData.str) → vs = ns.map V.str
  | [], _, h => h.nil_inv
  | n :: ns, _, h => by
    obtain ⟨x, xs, rfl, h1, h2⟩ := h.cons_inv
    rw [h1.str_inv, TDs.strs_inv h2]
    rfl
theorem TDs.ints_inv : ∀ {ns : List Int} {vs : List V}, TDs K H vs (ns.map PyData.int) → vs = ns.map V.int
  | [], _, h => h.nil_inv
  | n :: ns, _, h => by
    obtain ⟨x, xs, rfl, h1, h2⟩ := h.cons_inv
    rw [h1.int_inv, TDs.ints_inv h2]
    rfl
theorem td_new {p : Addr} {o : HO} (hp : H p = none) (h : TD K H v d) : TD K (upd H p o) v d := h.mono (TupX.new hp)
theorem td_lst {p : Addr} {o : HO} {ys : List V} (hp : H p = some (.lst ys)) (h : TD K H v d) : TD K (upd H p o) v d := h.mono (TupX.lst hp)
theorem td_same (e : Same H H') (h : TD K H v d) : TD K H' v d := h.mono (TupX.same e)
theorem tds_new {p : Addr} {o : HO} (hp : H p = none) (h : TDs K H vs ds) : TDs K (upd H p o) vs ds := h.mono (TupX.new hp)
theorem tds_lst {p : Addr} {o : HO} {ys : List V} (hp : H p = some (.lst ys)) (h : TDs K H vs ds) : TDs K (upd H p o) vs ds := h.mono (TupX.lst hp)
theorem tds_same (e : Same H H') (h : TDs K H vs ds) : TDs K H' vs ds := h.mono (TupX.same e)
theorem dpAll_of {xs : List V} {ds : List PyData} (h : TDs K H xs ds) : DpAll K H xs ds := h.dp
theorem dpl {a : Addr} {xs : List V} {ds : List PyData} (hs : SqL K H a xs) (h : TDs K H xs ds) : Dp K H (.ref a) (.list ds) := .lst hs h.dp
end

/-! ### readings, one step each -/
def MkT (xs : List V) (H : Hp) (Q : VK) : Prop := xs.length ≤ sizeLine ∧ ∀ p, H p = none → Q (.ref p) (upd H p (.tup xs))
def MkL (xs : List V) (H : Hp) (Q : VK) : Prop := xs.length ≤ sizeLine ∧ ∀ p, H p = none → Q (.ref p) (upd H p (.lst xs))
def rIsN : R2 := fun x y H Q => y = .non ∧ Q (.bl (decide (x = .non))) H
def rNotN : R2 := fun x y H Q => y = .non ∧ Q (.bl (!decide (x = .non))) H
def rInS : R2 := fun x y H Q => ∃ (c : Nat) (z : Str), x = .str ⟨#[c]⟩ ∧ y = .str z ∧ Q (.bl (decide (c ∈ z.cps.toList))) H
def rLen (K : PySem.W.Frag) : List V → Hp → VK → Prop := fun xs H Q => ∃ x n, xs = [x] ∧ LenV K x H n ∧ Q (.int n) H
def rInt1 : List V → Hp → VK → Prop := fun xs H Q => (∃ i, xs = [.int i] ∧ Q (.int i) H) ∨ ∃ k, xs = [.bl k] ∧ Q (.int (if k then 1 else 0)) H
def rTupOf (K : PySem.W.Frag) : List V → Hp → VK → Prop := fun xs H Q => ∃ p ys, xs = [.ref p] ∧ ((SqL K H p ys ∧ ∀ l, H l = none → Q (.ref l) (upd H l (.tup ys))) ∨ (SqT K H p ys ∧ Q (.ref p) H))
def rListOf (K : PySem.W.Frag) : List V → Hp → VK → Prop := fun xs H Q => ∃ p ys, xs = [.ref p] ∧ (SqL K H p ys ∨ SqT K H p ys) ∧ ∀ l, H l = none → Q (.ref l) (upd H l (.lst ys))
def rMax2 : List V → Hp → VK → Prop := fun xs H Q => ∃ i j, xs = [.int i, .int j] ∧ Q (.int (if j > i then j else i)) H
def rTIx (K : PySem.W.Frag) : V → List V → Hp → VK → Prop := fun x xs H Q => ∃ p, ∃ ys : List Str, ∃ z j, x = .ref p ∧ xs = [.str z] ∧ SqT K H p (ys.map V.str) ∧ ys[j]? = some z ∧ (∀ m, m < j → ys[m]? ≠ some z) ∧ Q (.int (j : Nat)) H
section
variable {X : Cx}
theorem op_is0 : OpR X (compareOp .Is) rIsN := op_isN
theorem op_isnt0 : OpR X (compareOp .IsNot) rNotN := op_notN
theorem op_in0 : OpR X (compareOp .In) rInS := op_in_sign
theorem cl_len : CallR X (.builtin "len") (rLen X.K) := call_len
theorem cl_int1 : CallR X (.type "int") rInt1 := call_int1
theorem cl_tup : CallR X (.type "tuple") (rTupOf X.K) := call_tuple_of
theorem cl_list : CallR X (.type "list") (rListOf X.K) := call_list_of
theorem cl_max2 (hc : X.calm = true) : CallR X (.builtin "max") rMax2 := call_max2 hc
theorem mt_tix : MtR X "tuple.index" (rTIx X.K) := mt_tup_index
end
section
variable {K : PySem.W.Frag} {σ : L2.St} {H : Hp} {Q : VK} {x y v : V} {ta tb tc te : TE} {r r' : R2} {t : TA} {a : Addr} {xs ys : List V}
theorem l_var {i : Nat} (h : σ[i]? = some (some v)) (q : Q v H) : tVar i σ H Q := ⟨v, h, q⟩
theorem l_c (q : Q v H) : tC v σ H Q := q
theorem l_op (q : ta σ H fun x H1 => tb σ H1 fun y H2 => r x y H2 Q) : tOp r ta tb σ H Q := q
theorem l_un {r : V → Hp → VK → Prop} (q : ta σ H fun x H1 => r x H1 Q) : tUn r ta σ H Q := q
theorem l_U {g : Int → V} {i : Int} (q : Q (g i) H) : rU g (.int i) H Q := ⟨i, rfl, q⟩
theorem l_I0 {g : Int → Int → V} {i j : Int} (q : Q (g i j) H) : rI0 g (.int i) (.int j) H Q := ⟨i, j, rfl, rfl, q⟩
theorem l_I {C : Int → Int → Prop} {g : Int → Int → V} {i j : Int} (c : C i j) (q : Q (g i j) H) : rI C g (.int i) (.int j) H Q := ⟨i, j, rfl, rfl, c, q⟩
theorem l_eq (h : scal x y = true) (q : Q (.bl (decide (x = y))) H) : rEq x y H Q := ⟨h, q⟩
theorem l_ne (h : scal x y = true) (q : Q (.bl (!decide (x = y))) H) : rNe x y H Q := ⟨h, q⟩
theorem l_isN (q : Q (.bl (decide (x = .non))) H) : rIsN x .non H Q := ⟨rfl, q⟩
theorem l_notN (q : Q (.bl (!decide (x = .non))) H) : rNotN x .non H Q := ⟨rfl, q⟩
theorem l_inS {c : Nat} {z : Str} (q : Q (.bl (decide (c ∈ z.cps.toList))) H) : rInS (.str ⟨#[c]⟩) (.str z) H Q := ⟨c, z, rfl, rfl, q⟩
theorem l_ixT {i : Int} (h : SqT K H a xs) (e : atI xs i = some v) (q : Q v H) : rIxT K (.ref a) (.int i) H Q := ⟨a, xs, i, v, rfl, rfl, h, e, q⟩
theorem l_ixL {i : Int} (h : SqL K H a xs) (e : atI xs i = some v) (q : Q v H) : rIxL K (.ref a) (.int i) H Q := ⟨a, xs, i, v, rfl, rfl, h, e, q⟩
theorem l_cb {r : List V → Hp → VK → Prop} (q : t σ H fun vs H1 => r vs H1 Q) : tCB r t σ H Q := q
theorem l_cons {Q : List V → Hp → Prop} (q : te σ H fun x H1 => t σ H1 fun xs H2 => Q (x :: xs) H2) : tCons te t σ H Q := q
theorem l_nil {Q : List V → Hp → Prop} (q : Q [] H) : tNil σ H Q := q
theorem l_lenT (h : SqT K H a xs) (q : Q (.int (xs.length : Nat)) H) : rLen K [.ref a] H Q := ⟨_, _, rfl, .inr ⟨xs, h, rfl⟩, q⟩
theorem l_lenL (h : SqL K H a xs) (q : Q (.int (xs.length : Nat)) H) : rLen K [.ref a] H Q := ⟨_, _, rfl, .inl ⟨xs, h, rfl⟩, q⟩
theorem l_lenS {z : Str} (h : z.length ≤ sizeLine) (q : Q (.int (z.length : Nat)) H) : rLen K [.str z] H Q := ⟨_, _, rfl, ⟨h, rfl⟩, q⟩
theorem l_int_b {k : Bool} (q : Q (.int (if k then 1 else 0)) H) : rInt1 [.bl k] H Q := .inr ⟨k, rfl, q⟩
theorem l_tupL (h : SqL K H a xs) (q : ∀ l, H l = none → Q (.ref l) (upd H l (.tup xs))) : rTupOf K [.ref a] H Q := ⟨a, xs, rfl, .inl ⟨h, q⟩⟩
theorem l_listL (h : SqL K H a xs) (q : ∀ l, H l = none → Q (.ref l) (upd H l (.lst xs))) : rListOf K [.ref a] H Q := ⟨a, xs, rfl, .inl h, q⟩
theorem l_max2 {i j : Int} (q : Q (.int (if j > i then j else i)) H) : rMax2 [.int i, .int j] H Q := ⟨i, j, rfl, q⟩
theorem l_all {bs : List Bool} (h : SqL K H a (bs.map V.bl)) (q : Q (.bl (bs.all id)) H) : rAll K [.ref a] H Q := ⟨a, bs, rfl, h, q⟩
theorem l_any {bs : List Bool} (h : SqL K H a (bs.map V.bl)) (q : Q (.bl (bs.any id)) H) : rAny K [.ref a] H Q := ⟨a, bs, rfl, h, q⟩
theorem l_sum {ns : List Int} (h : SqL K H a (ns.map V.int)) (q : Q (.int ns.sum) H) : rSum K [.ref a] H Q := ⟨a, ns, rfl, h, q⟩
theorem l_tup (q : t σ H fun xs H1 => MkT xs H1 Q) : tTup t σ H Q := q
theorem l_lst (q : t σ H fun xs H1 => MkL xs H1 Q) : tLst t σ H Q := q
theorem l_call {sp : Sp} {E : XK} (q : t σ H fun vs H1 => sp (vs ++ []) H1 Q E) : tCall sp [] E t σ H Q := q
theorem tyx_tup (h : SqT K H a xs) : TyX K H (.ref a) (.type "tuple") := by
  rcases h with (h | ⟨o, h⟩) | ⟨o, its, n, h, c, _⟩
  · exact .base (.tup h)
  · exact .fTuple h
  · exact .kTuple h c
theorem tyx_lst (h : H a = some (.lst xs)) : TyX K H (.ref a) (.type "list") := .base (.lst h)
theorem l_isi {A B : String} {b : Bool} (ty : TyX K H x (.type A)) (e : kitB A B = some b) (q : Q (.bl b) H) : rIsi K [x, .ty B] H Q :=
  ⟨x, .ty B, .type A, .type B, b, rfl, .ty B, ty, kit_ty e, q⟩
theorem l_chain (q : ta σ H fun x H1 => tb σ H1 fun y H2 => r x y H2 fun z H3 => ∃ k, z = .bl k ∧ (if k = true then tc σ H3 fun w' H4 => r' y w' H4 Q else Q (.bl false) H3)) : tChain r r' ta tb tc σ H Q := q
theorem l_andV (q : ta σ H fun x H1 => ∃ c, x = .bl c ∧ if c = true then tb σ H1 Q else Q (.bl false) H1) : tAndV ta tb σ H Q := q
theorem l_orV (q : ta σ H fun x H1 => ∃ c, x = .bl c ∧ if c = true then Q (.bl true) H1 else tb σ H1 Q) : tOrV ta tb σ H Q := q
theorem l_notV (q : ta σ H fun x H1 => ∃ c, x = .bl c ∧ Q (.bl (!c)) H1) : tNotV ta σ H Q := q
theorem l_slT {lo hi : Option Int} (h : SqT K H a xs) (q1 : HT.sIx xs.length 0 lo = 0 ∧ HT.sIx xs.length xs.length hi = xs.length → Q (.ref a) H)
    (q2 : ¬ (HT.sIx xs.length 0 lo = 0 ∧ HT.sIx xs.length xs.length hi = xs.length) → ∀ p, H p = none → Q (.ref p) (upd H p (.tup (cutV xs lo hi)))) : rSlA K (.ref a) lo hi H Q := ⟨a, xs, rfl, h, q1, q2⟩
theorem l_slL {lo hi : Option Int} (h : SqL K H a xs) (q : ∀ p, H p = none → Q (.ref p) (upd H p (.lst (cutV xs lo hi)))) : rSlL K (.ref a) lo hi H Q := ⟨a, xs, rfl, h, q⟩
theorem l_sl {r : V → Option Int → Option Int → Hp → VK → Prop} {tl th : TO} (q : te σ H fun x H1 => tl σ H1 fun l H2 => th σ H2 fun u H3 => r x l u H3 Q) : tSl r te tl th σ H Q := q
theorem l_noPart {Q : Option Int → Hp → Prop} (q : Q none H) : tNoPart σ H Q := q
theorem l_part {Q : Option Int → Hp → Prop} (q : te σ H fun x H1 => ∃ i, x = .int i ∧ Q (some i) H1) : tPart te σ H Q := q
theorem l_cat {b : Addr} (h1 : H a = some (.lst xs)) (h2 : H b = some (.lst ys)) (hz : xs.length + ys.length ≤ sizeLine) (q : ∀ p, H p = none → Q (.ref p) (upd H p (.lst (xs ++ ys)))) : rCat (.ref a) (.ref b) H Q := ⟨a, b, xs, ys, rfl, rfl, h1, h2, hz, q⟩
theorem l_catA {b : Addr} (h1 : SqT K H a xs) (h2 : SqT K H b ys) (hz : xs.length + ys.length ≤ sizeLine) (q0 : xs = [] → Q (.ref b) H) (q1 : xs ≠ [] → ys = [] → Q (.ref a) H) (q : xs ≠ [] → ys ≠ [] → ∀ p, H p = none → Q (.ref p) (upd H p (.tup (xs ++ ys)))) :
    rCatA K (.ref a) (.ref b) H Q := ⟨a, b, xs, ys, rfl, rfl, h1, h2, hz, q0, q1, q⟩
theorem l_bm {T : String} {r : V → List V → Hp → VK → Prop} (q : ta σ H fun x H1 => tyV K T x H1 ∧ t σ H1 fun xs H2 => r x xs H2 Q) : tBM K T r ta t σ H Q := q
theorem tyv_list (h : SqL K H a xs) : tyV K "list" (.ref a) H := .inl ⟨rfl, xs, h⟩
theorem l_app (h : H a = some (.lst xs)) (hz : xs.length < sizeLine) (q : Q .non (upd H a (.lst (xs ++ [y])))) : rAppend (.ref a) [y] H Q := ⟨a, xs, y, rfl, rfl, h, hz, q⟩
theorem l_tix {ns : List Str} {z : Str} {j : Nat} (h : SqT K H a (ns.map V.str)) (h1 : ns[j]? = some z) (h2 : ∀ m, m < j → ns[m]? ≠ some z) (q : Q (.int (j : Nat)) H) : rTIx K (.ref a) [.str z] H Q := ⟨a, ns, z, j, rfl, rfl, h, h1, h2, q⟩
theorem l_fld {C dx : Addr} {fs : List (Str × V)} {f : Str} (q : ta σ H fun x H1 => ∃ a C dx fs v, x = .ref a ∧ H1 a = some (.ins C dx fs) ∧ Cls K C ∧ NoAttr K C f ∧ fs.lookup f = some v ∧ Q v H1) : tFld K ta f σ H Q := q
theorem l_eqD {d e : PyData} (hd : Dp K H x d) (he : Dp K H y e) (sd : SeqAt.shaped d = true) (se : SeqAt.shaped e = true) (q : Q (.bl (PyData.eqv d e)) H) : rEqD K x y H Q := ⟨d, e, hd, he, sd, se, q⟩
theorem l_neD {d e : PyData} (hd : Dp K H x d) (he : Dp K H y e) (sd : SeqAt.shaped d = true) (se : SeqAt.shaped e = true) (q : Q (.bl (!PyData.eqv d e)) H) : rNeD K x y H Q := ⟨d, e, hd, he, sd, se, q⟩
theorem l_inT {neg : Bool} (h : SqT K H a xs) (hx : flatV x = true) (hf : xs.all flatV = true) (q : Q (.bl (if neg then !inV x xs else inV x xs)) H) : rIn K neg x (.ref a) H Q := ⟨a, xs, rfl, .inr h, hx, hf, q⟩
theorem l_inL {neg : Bool} (h : SqL K H a xs) (hx : flatV x = true) (hf : xs.all flatV = true) (q : Q (.bl (if neg then !inV x xs else inV x xs)) H) : rIn K neg x (.ref a) H Q := ⟨a, xs, rfl, .inl h, hx, hf, q⟩
end
section
variable {K : PySem.W.Frag} {σ : L2.St} {H : Hp} {Q : Bool → Hp → Prop} {te : TE} {c u : TT}
theorem l_test (q : te σ H fun x H' => ∃ k, x = .bl k ∧ Q k H') : tTest te σ H Q := q
theorem l_B (q : te σ H fun x H' => ∃ k, x = .bl k ∧ Q k H') : tB te σ H Q := q
theorem l_and (q : c σ H fun b H1 => if b = true then u σ H1 Q else Q false H1) : tAnd c u σ H Q := q
theorem l_or (q : c σ H fun b H1 => if b = true then Q true H1 else u σ H1 Q) : tOr c u σ H Q := q
theorem l_not (q : c σ H fun b H1 => Q (!b) H1) : tNot c σ H Q := q
end
section
variable {K : PySem.W.Frag} {σ : L2.St} {H : Hp} {D : Ends} {te : TE} {c : TT} {t u : TS} {g : TG}
theorem l_seq (q : t { D with nx := u D } σ H) : tSeq t u D σ H := q
theorem l_next (q : D.nx σ H) : tNext D σ H := q
theorem l_drop (q : te σ H fun _ H1 => D.nx σ H1) : tDrop te D σ H := q
theorem l_ret (q : te σ H D.rt) : tRet te D σ H := q
theorem l_if (q : c σ H fun b H1 => if b = true then t D σ H1 else u D σ H1) : tIfS c t u D σ H := q
theorem l_asg (q : te σ H fun x H1 => g x σ H1 D.nx) : tAsg te g D σ H := q
theorem l_gname {i : Nat} {v : V} {Q : L2.St → Hp → Prop} (q : Q (σ.set i (some v)) H) : gName i v σ H Q := q
theorem l_gnil {Q : L2.St → Hp → Prop} (q : Q σ H) : gNil [] σ H Q := ⟨rfl, q⟩
theorem l_gcons {tg : TG} {ug : TGs} {v : V} {r : List V} {Q : L2.St → Hp → Prop} (q : tg v σ H fun σ' H' => ug r σ' H' Q) : gCons tg ug (v :: r) σ H Q := ⟨v, r, rfl, q⟩
theorem l_gtup {n : Nat} {tg : TGs} {a : Addr} {xs : List V} {Q : L2.St → Hp → Prop} (h : SqT K H a xs) (hn : xs.length = n) (q : tg xs σ H Q) : gTup K n tg (.ref a) σ H Q := ⟨a, xs, rfl, h, hn, q⟩
theorem l_iT {A B : Prop} {b : Bool} (e : b = true) (q : A) : if b = true then A else B := by rw [if_pos e]; exact q
theorem l_iF {A B : Prop} {b : Bool} (e : b = false) (q : B) : if b = true then A else B := by rw [if_neg (by rw [e]; exact Bool.false_ne_true)]; exact q
theorem l_i2 {A B : Prop} {b : Bool} (h1 : b = true → A) (h2 : b = false → B) : if b = true then A else B := by
  cases b with
  | true => exact l_iT rfl (h1 rfl)
  | false => exact l_iF rfl (h2 rfl)
theorem l_ki {i : Int} {Q : Int → Prop} (q : Q i) : ∃ k, V.int i = .int k ∧ Q k := ⟨i, rfl, q⟩
theorem l_kb {b : Bool} {Q : Bool → Prop} (q : Q b) : ∃ k, V.bl b = .bl k ∧ Q k := ⟨b, rfl, q⟩
end

/-! ### a tuple known to its object: no dict of its own, so its methods are found -/
def TupF (H : Hp) (a : Addr) (xs : List V) : Prop := ∃ o : Obj, o.dict = none ∧ H a = some (.frz o (.tup xs))
theorem TupF.sqt {K : PySem.W.Frag} {H : Hp} {a : Addr} {xs : List V} (h : TupF H a xs) : SqT K H a xs := by
  obtain ⟨o, _, e⟩ := h
  exact .inl (.inr ⟨o, e⟩)
theorem TupF.same {H H' : Hp} {a : Addr} {xs : List V} (e : Same H H') (h : TupF H a xs) : TupF H' a xs := by
  obtain ⟨o, d, q⟩ := h
  exact ⟨o, d, e _ _ q⟩
def rCatF (K : PySem.W.Frag) : R2 := fun x y H Q => ∃ a b xs ys, x = .ref a ∧ y = .ref b ∧ SqT K H a xs ∧ SqT K H b ys ∧ xs ≠ [] ∧ ys ≠ [] ∧ xs.length + ys.length ≤ sizeLine ∧
  ∀ p (o : Obj), H p = none → o.dict = none → Q (.ref p) (upd H p (.frz o (.tup (xs ++ ys))))
/-- methods of a frozen tuple -/
def tBMF (r : V → List V → Hp → VK → Prop) (to : TE) (t : TA) : TE := fun σ H Q => to σ H fun x H1 => (∃ a xs, x = .ref a ∧ TupF H1 a xs) ∧ t σ H1 fun xs H2 => r x xs H2 Q
/-- t.count(x), x a text -/
def rTCnt (K : PySem.W.Frag) : V → List V → Hp → VK → Prop := fun x xs H Q => ∃ p, ∃ ys : List Str, ∃ z, x = .ref p ∧ xs = [.str z] ∧ SqT K H p (ys.map V.str) ∧ PyData.plainAll (ys.map PyData.str) = true ∧ (PyData.str z).plain = true ∧ Q (.int ((ys.map PyData.str).countP fun y => PyData.eqv y (.str z) : Nat)) H
/-- t * 1, t * 2 .. -/
def rRepA (K : PySem.W.Frag) : R2 := fun x y H Q => ∃ l k xs, x = .ref l ∧ y = .int k ∧ SqT K H l xs ∧ xs ≠ [] ∧ 1 ≤ k ∧ k ≤ 1000 ∧ xs.length ≤ 1000 ∧ (k = 1 → Q (.ref l) H) ∧ (2 ≤ k → ∀ p, H p = none → Q (.ref p) (upd H p (.tup (List.replicate k.toNat xs).flatten)))
section
variable {X : Cx}
theorem op_catF : OpR X (binaryOp .Add) (rCatF X.K) := by
  intro pins s σ H x y v u Q I rx ry h
  obtain ⟨a, b, xs, ys, rfl, rfl, ha, hb, hx, hy, hz, q⟩ := h
  cases rx
  cases ry
  obtain ⟨its, r1, p1, _⟩ := I.tuple ha
  obtain ⟨its2, r2, p2, _⟩ := I.tuple hb
  have n1 : its ≠ [] := by
    rintro rfl
    exact hx (List.length_eq_zero_iff.mp r1.length)
  have n2 : its2 ≠ [] := by
    rintro rfl
    exact hy (List.length_eq_zero_iff.mp r2.length)
  have hl : its.length + its2.length ≤ sizeLine := by rw [← r1.length, ← r2.length]; exact hz
  refine HT.cat_tup p1 p2 n1 (fun e => absurd e n2) (fun _ => ?_) hl
  have hf : H s.heap.objs.size = none := I.hok.fresh (Nat.le_refl _)
  refine ⟨.ref s.heap.objs.size, _, I.laid (t' := s.toks) (o := .frz { cls := .type "tuple", data := .seq (its ++ its2).toArray } (.tup (xs ++ ys))) (fun b ob q => Heap.get?_push_of_some _ q) (Nat.le_refl _) ?_, rfl, q _ _ hf rfl⟩
  refine ⟨Heap.get?_push_size _ rfl, ?_⟩
  exact ⟨by rw [List.length_append]; exact hz, _, r1.append r2, IsTup.new _ _⟩
variable {o e : Expr} {es : List Expr} {to : TE} {t : TA} {name : Str} {apos cpos : Pos} {id : String} {r : V → List V → Hp → VK → Prop}
theorem pe_bmF (slot : Slot "tuple" name id) (hty : typeOf (.builtin id) = pure (.type "method_descriptor")) (hm : MtR X id r) (ho : PE X o to) (ha : PA X (e :: es) t)
    (hbase : attributeBase o name X.env (eval o X.env) = eval o X.env := by rfl)
    (hfew : ((backTo cpos (starEach (e :: es) X.env)).all (fun x => !x.1) && (backToKw cpos (keywordEach [] X.env)).all (fun x => x.1.isSome)
      && decide ((e :: es).length + ([] : List Keyword).length + (if ([] : List Keyword).isEmpty then 0 else 1) < 30)) = true := by rfl)
    (hline : (apos.endLine == cpos.line) = true := by rfl) (hs : starEach (e :: es) X.env = (false, eval e X.env) :: starEach es X.env := by rfl) (hplain : (backTo cpos (starEach es X.env)).any (·.1) = false := by rfl) :
    PE X (.Call (.Attribute o name apos) (e :: es) [] cpos) (tBMF r to t) := by
  refine ⟨fun pins s σ H Q I h => ?_⟩
  refine wpAny_Call_method_late hbase hfew hline rfl (thn (ho.run pins s σ H _ I h) fun v s1 ⟨x, H1, I1, r1, ty, q1⟩ => ?_)
  obtain ⟨a, xs, rfl, ob, hd, hq⟩ := ty
  cases r1
  have ok : ObjOk X.prog X.w H1 s1.heap a (.frz ob (.tup xs)) := I1.hok a _ hq
  obtain ⟨he, _, its, rv, pt⟩ := ok
  refine ⟨"tuple", id, PySem.F.plainAttrs_tuple, slot, hty, pt.typeIs, fun b eb => ?_, ?_⟩
  · cases eb
    exact ⟨ob, he, hd⟩
  have hA := ha.run cpos pins s1 σ H1 _ I1 q1
  rw [hs] at hA ⊢
  refine Calls.callWith_builtin (by show (false || (backTo cpos (starEach es X.env)).any (·.1)) = false; rw [hplain] <;> rfl) (Calls.evalArgs_plain ?_)
  exact thn hA fun us s2 ⟨vs, H2, I2, r2, q2⟩ => hm pins s2 σ H2 (.ref a) vs _ us Q I2 rfl r2 q2
theorem mt_tcnt (hu : X.A.units + 65 < cLine) : MtR X "tuple.count" (rTCnt X.K) := by
  intro pins s σ H x xs v us Q I rx rs h
  obtain ⟨p, ys, z, rfl, rfl, hq, hp, hpz, q⟩ := h
  cases rx
  obtain ⟨u, rfl, ru⟩ := vals1 rs
  obtain ⟨its, rv, pl, hz⟩ := I.tuple hq
  obtain ⟨bs, r1⟩ := Dp.reads I (.str z) _ u (.str z) ru
  obtain ⟨as, r2⟩ := Dp.readsAll I (ys.map PyData.str) _ its (TDs.strs (K := X.K) (H := H)).dp rv
  have hd : PyData.depth (.str z) = 0 := by simp only [PyData.depth]
  exact PySem.SeqAt.count_tuple_data (vs := its.toArray) (xs := ys.map PyData.str) (d := .str z) pl r2 r1 hp hpz (by rw [hd]; omega) ⟨.int _, H, I.tok _, ⟨_, rfl⟩, q⟩
end

section
open PySem.AutoSeq1 (wpAny_loadPart')
theorem tuple_mul1 (l : Addr) (items : Array Value) (n : Nat) (dd : Option Addr) (sl : Array (Option Value)) (u : Tok) :
    Meets (Builtin.«tuple.__mul__» ⟨[.ref l, .int 1 u], []⟩) (fun _ R s => s.heap.get? l = some { cls := .type "tuple", dict := dd, data := .seq items n, slots := sl } ∧ R (.ok (.ret (Value.ref l))) s) :=
  .of_wp fun prog w A R s h => by
    obtain ⟨hp, g, d, tk, os⟩ := s
    obtain ⟨hl, h⟩ := h
    have f1 := AutoSeq1.idx_int
    have c0 : (decide ((1 : Int) < -(2 ^ 63)) || decide ((1 : Int) ≥ 2 ^ 63)) = false := by decide
    have c1 : (items.isEmpty || (1 : Int) == 1) = true := by simp
    wp_walk using wpAny_loadPart' hl
    repeat (first
      | (refine wpAny_ite_false (decide_eq_false (by rw [c0]; exact Bool.false_ne_true)) ?_; wp_walk using wpAny_loadPart' hl)
      | (refine wpAny_ite_true (decide_eq_true (by rw [c1])) ?_; wp_walk using wpAny_loadPart' hl))
    exact ⟨_, rfl, h⟩
end
section
variable {X : Cx}
theorem op_repA : OpR X (binaryOp .Mult) (rRepA X.K) := by
  intro pins s σ H x y v u Q I rx ry h
  obtain ⟨l, k, xs, rfl, rfl, hT, hne, h1, h2, hz, q1, q2⟩ := h
  by_cases e : k = 1
  · subst e
    cases rx
    obtain ⟨t, rfl⟩ := ry
    obtain ⟨its, r, ⟨⟨cls, dd, data, sl⟩, ho, hc, n, hd⟩, hs⟩ := I.tuple hT
    simp only at hc hd
    subst hc hd
    refine wpAny_binaryOp_repeat_ref (T := "tuple") (U := "int") (by decide) ⟨_, ho, rfl⟩ (fun s' => typeIs_int s' 1 t) noFill_tuple_mul F.fills_int_mul F.slot_int_rmul repeat_tuple F.slot_int_index.lookup
      (call_meets F.slot_int_rmul (typeIs_int s 1 t) F.entry_int_rmul (F.args_int_rmul_2 _ _) (int_rmul_tuple 1 t l its.toArray n dd sl)
        ⟨ho, rfl, ⟨_, ho, rfl⟩, call_meets F.slot_tuple_mul ⟨_, ho, rfl⟩ F.entry_tuple_mul (F.args_tuple_mul_2 _ _) (tuple_mul1 l its.toArray n dd sl t) ⟨ho, ?_⟩⟩)
    exact ⟨.ref l, H, I, rfl, q1 rfl⟩
  · exact op_repT pins s σ H _ _ v u Q I rx ry ⟨l, k, xs, rfl, rfl, hT, hne, by omega, h2, hz, q2 (by omega)⟩
end
section
variable {K : PySem.W.Frag} {σ : L2.St} {H : Hp} {Q : VK} {ta : TE} {t : TA} {a b : Addr} {xs ys : List V}
theorem l_catF (h1 : SqT K H a xs) (h2 : SqT K H b ys) (n1 : xs ≠ []) (n2 : ys ≠ []) (hz : xs.length + ys.length ≤ sizeLine) (q : ∀ p (o : Obj), H p = none → o.dict = none → Q (.ref p) (upd H p (.frz o (.tup (xs ++ ys))))) :
    rCatF K (.ref a) (.ref b) H Q := ⟨a, b, xs, ys, rfl, rfl, h1, h2, n1, n2, hz, q⟩
theorem l_bmF {r : V → List V → Hp → VK → Prop} (q : ta σ H fun x H1 => (∃ a xs, x = .ref a ∧ TupF H1 a xs) ∧ t σ H1 fun xs H2 => r x xs H2 Q) : tBMF r ta t σ H Q := q
theorem l_tcnt {ns : List Str} {z : Str} (h : SqT K H a (ns.map V.str)) (h1 : PyData.plainAll (ns.map PyData.str) = true) (h2 : (PyData.str z).plain = true) (q : Q (.int ((ns.map PyData.str).countP fun y => PyData.eqv y (.str z) : Nat)) H) :
    rTCnt K (.ref a) [.str z] H Q := ⟨a, ns, z, rfl, rfl, h, h1, h2, q⟩
end

/-! ### a dict whose keys are tuples of truth values -/
abbrev KB (H : Hp) : List (List Bool × V) → List (List Bool × Addr × Value) → Prop := Paired fun p q => p.1 = q.1 ∧ H q.2.1 = some (.tup (p.1.map V.bl)) ∧ RelV p.2 q.2.2
theorem KB.val {H : Hp} {kvs : List (List Bool × V)} {xs : List (List Bool × Addr × Value)} (r : KB H kvs xs) (k : List Bool) : RelO (valV kvs k) ((atKey xs k).map (·.2)) := by
  induction r with
  | nil => exact True.intro
  | @cons p q ps qs h t ih =>
    obtain ⟨h1, _, h2⟩ := h
    by_cases e : p.1 = k
    · have e' : q.1 = k := h1.symm.trans e
      have b : atKey (q :: qs) k = some q.2 := by simp [atKey, List.find?_cons, e']
      rw [valV_pos e, b]; exact h2
    · have e' : ¬ q.1 = k := fun z => e (h1.trans z)
      have b : atKey (q :: qs) k = atKey qs k := by simp [atKey, List.find?_cons, e']
      rw [valV_neg e, b]; exact ih
theorem KB.repl {H : Hp} {kvs : List (List Bool × V)} {xs : List (List Bool × Addr × Value)} (r : KB H kvs xs) (k : List Bool) {y : V} {u : Value} (ry : RelV y u) :
    KB H (kvs.map fun kv => if kv.1 = k then (kv.1, y) else kv) (xs.map (putAt k u)) := by
  induction r with
  | nil => exact .nil
  | @cons p q ps qs h t ih =>
    rw [List.map_cons, List.map_cons]
    refine .cons ?_ ih
    obtain ⟨h1, h2, h3⟩ := h
    unfold putAt
    by_cases e : p.1 = k
    · rw [if_pos e, if_pos (h1.symm.trans e)]; exact ⟨h1, h2, ry⟩
    · rw [if_neg e, if_neg (fun z => e (h1.trans z))]; exact ⟨h1, h2, h3⟩
theorem KB.put {H : Hp} {kvs : List (List Bool × V)} {xs : List (List Bool × Addr × Value)} (r : KB H kvs xs) (k : List Bool) {b : Addr} {y : V} {u : Value} (hb : H b = some (.tup (k.map V.bl))) (ry : RelV y u) :
    KB H (putK kvs k y) (storedH xs k b u) := by
  have e : (kvs.any fun kv => decide (kv.1 = k)) = (atKey xs k).isSome := by
    rw [valV_any, (r.val k).isSome_eq, Option.isSome_map]
  unfold putK storedH
  rw [e]
  by_cases q : (atKey xs k).isSome = true
  · rw [if_pos q, if_pos q]; exact r.repl k ry
  · rw [if_neg q, if_neg q]; exact Paired.snoc r ⟨rfl, hb, ry⟩
theorem KB.keeps {H H' : Hp} {kvs : List (List Bool × V)} {xs : List (List Bool × Addr × Value)} (r : KB H kvs xs) (ht : ∀ b ys, H b = some (.tup ys) → H' b = some (.tup ys)) : KB H' kvs xs :=
  Paired.mapP r fun _ _ z => ⟨z.1, ht _ _ z.2.1, z.2.2⟩
theorem itemsB {P : Program} {w : World} : ∀ {ks : List Bool} {us : List Value}, Vals (ks.map V.bl) us → ItemsAre (PpSet.boolK P w) ks us
  | [], _, r => by rw [List.map_nil] at r; cases r; exact .nil
  | k :: ks, _, r => by
    rw [List.map_cons] at r
    cases r with
    | cons h t =>
      have e : _ = Value.bool k := h
      subst e
      exact .cons (PpSet.boolK_is P w k) (itemsB t)
theorem keyB_of {P : Program} {w : World} {H : Hp} {h : Heap} {a : Addr} {ks : List Bool} (ok : HOk P w H h) (e : H a = some (.tup (ks.map V.bl))) : (tupleKind (PpSet.boolK P w)).is h ks a := by
  obtain ⟨_, its, r, o, h1, h2, n, h3⟩ := (show ObjOk P w H h a (.tup (ks.map V.bl)) from ok a _ e)
  exact ⟨o, its.toArray, n, h1, h2, h3, by simpa using itemsB r⟩
/-- at a, tracked to its object: a dict of the pairs kvs, its keys tuples of truth values -/
def DB (P : Program) (w : World) (H : Hp) (a : Addr) (kvs : List (List Bool × V)) : Prop :=
  kvs.length ≤ sizeLine ∧ (a == sysModules) = false ∧ ∃ (o : Obj) (xs : List (List Bool × Addr × Value)), H a = some (.ext fun h => h.get? a = some o) ∧ KB H kvs xs ∧
    o.ExactDict ∧ (∃ es ep, o.data = .dict es ep ∧ es.toList = xs.map (entryOfKey (tupleKind (PpSet.boolK P w)))) ∧ (xs.map (·.1)).Nodup
theorem DB.same {P : Program} {w : World} {H H' : Hp} {a : Addr} {kvs : List (List Bool × V)} (e : Same H H') (h : DB P w H a kvs) : DB P w H' a kvs := by
  obtain ⟨h1, h2, o, xs, h3, h4, h5⟩ := h
  exact ⟨h1, h2, o, xs, e _ _ h3, h4.keeps fun b ys q => e _ _ q, h5⟩
theorem DB.lst {P : Program} {w : World} {H : Hp} {a p : Addr} {kvs : List (List Bool × V)} {ys zs : List V} (hp : H p = some (.lst ys)) (h : DB P w H a kvs) : DB P w (upd H p (.lst zs)) a kvs := by
  obtain ⟨h1, h2, o, xs, h3, h4, h5⟩ := h
  refine ⟨h1, h2, o, xs, ?_, h4.keeps fun b ys q => ?_, h5⟩
  · rw [upd_ne (ne_of h3 hp (by intro z; cases z))]; exact h3
  · rw [upd_ne (ne_of q hp (by intro z; cases z))]; exact q
theorem DB.at {P : Program} {w : World} {H : Hp} {h : Heap} {a : Addr} {kvs : List (List Bool × V)} (ok : HOk P w H h) (d : DB P w H a kvs) : kvs.length ≤ sizeLine ∧ (a == sysModules) = false ∧
    ∃ xs, KB H kvs xs ∧ h.DictOfH (tupleKind (PpSet.boolK P w)) a xs := by
  obtain ⟨h1, h2, o, xs, h3, h4, h5, ⟨es, ep, h6, h7⟩, h8⟩ := d
  obtain ⟨hg, _, _⟩ := (show ObjOk P w H h a (.ext fun h => h.get? a = some o) from ok a _ h3)
  refine ⟨h1, h2, xs, h4, o, es, ep, hg, h5, h6, h7, fun x hx => ?_, h8⟩
  have all : ∀ {l : List (List Bool × V)} {m : List (List Bool × Addr × Value)}, KB H l m → ∀ x ∈ m, (tupleKind (PpSet.boolK P w)).is h x.1 x.2.1 := by
    intro l m q
    induction q with
    | nil => intro x hx; exact nomatch hx
    | @cons p q ps qs hq t ih =>
      intro x hx
      rcases List.mem_cons.mp hx with e | hx
      · subst e
        exact keyB_of ok (by rw [← hq.1]; exact hq.2.1)
      · exact ih x hx
  exact all h4 x hx
section
variable {X : Cx} {pins : List (Addr × Obj)} {σ : L2.St} {H : Hp} {s : Shared} {a b : Addr} {v : V} {u r : Value} {A : Around} {E : Value → Shared → Prop} {kvs : List (List Bool × V)} {k : List Bool}
theorem db_getItem {Q : Value → Shared → Prop} (hu : A.units + 1 < cLine) (I : Inv X pins σ H s) (g : DB X.prog X.w H a kvs) (eb : H b = some (.tup (k.map V.bl))) (l : valV kvs k = some v) (h : ∀ w' s', Inv X pins σ H s' → RelV v w' → Q w' s') :
    wpAny (model X.prog X.w) A (getItem (.ref a) (.ref b)) Q E s := by
  obtain ⟨z, hd, xs, rel, dd⟩ := g.at I.hok
  obtain ⟨w', hw, rw'⟩ := RelO.some_of (v := v) (o := (atKey xs k).map (·.2)) (by rw [← l]; exact rel.val k)
  obtain ⟨p, hp, hp2⟩ := Option.map_eq_some_iff.mp hw
  refine wpAny_getItem_heap (tupleKind_room_in1 hu) (keyB_of I.hok eb) dd hp ?_
  rw [hp2]
  exact h w' _ (I.tok _) rw'
theorem db_notIn {Q : Value → Shared → Prop} (hu : A.units + 1 < cLine) (I : Inv X pins σ H s) (g : DB X.prog X.w H a kvs) (eb : H b = some (.tup (k.map V.bl))) (h : ∀ s', Inv X pins σ H s' → Q (.bool (!(valV kvs k).isSome)) s') :
    wpAny (model X.prog X.w) A (compareOp .NotIn (.ref b) (.ref a)) Q E s := by
  obtain ⟨z, hd, xs, rel, dd⟩ := g.at I.hok
  refine wpAny_notIn_heap (tupleKind_room_in1 hu) (keyB_of I.hok eb) hd dd ?_
  have q := (rel.val k).isSome_eq
  rw [Option.isSome_map] at q
  rw [← q]
  exact h _ (I.tok _)
theorem db_setItem {Q : Unit → Shared → Prop} (hu : A.units + 1 < cLine) (I : Inv X pins σ H s) (g : DB X.prog X.w H a kvs) (eb : H b = some (.tup (k.map V.bl))) (l : kvs.length < sizeLine) (rv : RelV v r)
    (h : ∀ s' u, Inv X pins σ (upd H a u) s' → DB X.prog X.w (upd H a u) a (putK kvs k v) → (∃ f, u = .ext f) → Q () s') :
    wpAny (model X.prog X.w) A (setItem (.ref a) (.ref b) r) Q E s := by
  obtain ⟨z, hd, xs, rel, dd⟩ := g.at I.hok
  have hz : xs.length ≤ sizeLine := by rw [← Paired.length rel]; exact z
  have hl : (putK kvs k v).length ≤ sizeLine := by have := length_putK kvs k v; omega
  obtain ⟨o0, e0⟩ : ∃ o : Obj, H a = some (.ext fun h => h.get? a = some o) := by
    obtain ⟨_, _, o, _, e, _⟩ := g
    exact ⟨o, e⟩
  refine wpAny_setItem_heap (hsz := hz) (tupleKind_room_in1 hu) (keyB_of I.hok eb) dd fun h' dd' hs => ?_
  obtain ⟨q, es, ep, hq, h2, h3, h4, _, h5⟩ := dd'
  refine h _ (.ext fun h => h.get? a = some q) (d_write I (by rw [e0]; exact True.intro) hs ⟨q, hq⟩ ⟨hq, ⟨q, hq⟩, fun h1 h2 x y => y _ x⟩) ⟨hl, hd, q, _, upd_same, (rel.put k eb rv).keeps fun c ys ec => ?_, h2, ⟨es, ep, h3, h4⟩, h5⟩ ⟨_, rfl⟩
  rw [upd_ne (ne_of ec e0 (fun z => nomatch z))]
  exact ec
/-- y not in d -/
def tBNotIn (P : Program) (w : World) (ty td : TE) : TE := fun σ H Q => ty σ H fun y H1 => td σ H1 fun x H2 => ∃ a b kvs k, x = .ref a ∧ y = .ref b ∧ DB P w H2 a kvs ∧ H2 b = some (.tup (k.map V.bl)) ∧ Q (.bl (!(valV kvs k).isSome)) H2
def tBGet (P : Program) (w : World) (td ty : TE) : TE := fun σ H Q => td σ H fun x H1 => ty σ H1 fun y H2 => ∃ a b kvs k v, x = .ref a ∧ y = .ref b ∧ DB P w H2 a kvs ∧ H2 b = some (.tup (k.map V.bl)) ∧ valV kvs k = some v ∧ Q v H2
def sBPut (P : Program) (w : World) (td ty tv : TE) : TS := fun D σ H => tv σ H fun v H1 => td σ H1 fun x H2 => ty σ H2 fun y H3 => ∃ a b kvs k, x = .ref a ∧ y = .ref b ∧ DB P w H3 a kvs ∧ H3 b = some (.tup (k.map V.bl)) ∧ kvs.length < sizeLine ∧
  ∀ u, (∃ f, u = HO.ext f) → DB P w (upd H3 a u) a (putK kvs k v) → D.nx σ (upd H3 a u)
variable {i o value : Expr} {td ty tv : TE} {pos pos' : Pos}
theorem pc_dnotinB (hu : X.A.units + 1 < cLine) (hi : PE X i ty) (ho : PE X o td) : PC X .NotIn i o (tBNotIn X.prog X.w ty td) := by
  refine ⟨fun pins s σ H Q I h => ?_⟩
  refine thn (hi.run pins s σ H _ I h) fun iv s1 ⟨y, H1, I1, ry, q1⟩ => thn (ho.run pins s1 σ H1 _ I1 q1) fun u s2 ⟨x, H2, I2, rx, a, b, kvs, k, ex, ey, g, eb, q2⟩ => ?_
  subst ex ey
  cases rx
  cases ry
  exact db_notIn hu I2 g eb fun s3 I3 => ⟨.bl _, H2, I3, rfl, q2⟩
theorem pe_dgetB (hu : X.A.units + 1 < cLine) (ho : PE X o td) (hi : PE X i ty) (hs : NoSl i) : PE X (.Subscript o i pos) (tBGet X.prog X.w td ty) := by
  refine ⟨fun pins s σ H Q I h => ?_⟩
  refine subD_of (T := "dict") PySem.F.slot_dict_getitem.lookup hs (thn (ho.run pins s σ H _ I h) fun u s1 ⟨x, H1, I1, rx, q1⟩ => thn (hi.run pins s1 σ H1 _ I1 q1) fun iv s2 ⟨y, H2, I2, ry, a, b, kvs, k, v, ex, ey, g, eb, l, q2⟩ => ?_)
  subst ex ey
  cases rx
  cases ry
  obtain ⟨_, _, xs, _, dd⟩ := g.at I2.hok
  exact ⟨dd.typeIs, db_getItem hu I2 g eb l fun w' s3 I3 r => ⟨_, H2, I3, r, q2⟩⟩
theorem ps_dputB (hu : X.A.units + 1 < cLine) (ho : PE X o td) (hi : PE X i ty) (hv : PE X value tv) (hs : swapsWith value (some (.Subscript o i pos')) pos.line X.env = pure false) :
    PS X (.Assign [.Subscript o i pos'] value pos) (sBPut X.prog X.w td ty tv) := by
  refine ⟨fun pins s σ H D I h => ?_⟩
  refine wpAny_Assign_Subscript (thn (hv.run pins s σ H _ I h) fun r s1 ⟨v, H1, I1, rv, q1⟩ => thn (ho.run pins s1 σ H1 _ I1 q1) fun u s2 ⟨x, H2, I2, rx, q2⟩ => thn (hi.run pins s2 σ H2 _ I2 q2) fun iv s3 ⟨y, H3, I3, ry, a, b, kvs, k, ex, ey, g, eb, l, q3⟩ => ?_) hs
  subst ex ey
  cases rx
  cases ry
  exact db_setItem hu I3 g eb l rv fun s4 u I4 d e => ⟨σ, _, I4, q3 u e d⟩
/-- {k: v}, k a tuple of truth values: the new dict stands as u while the pair is made -/
def tDispB (P : Program) (w : World) (tk tv : TE) : TE := fun σ H Q => ∀ p u, H p = none → (∃ f, u = HO.ext f) → tk σ (upd H p u) fun y H1 => tv σ H1 fun v H2 => ∃ b k, y = .ref b ∧ H2 b = some (.tup (k.map V.bl)) ∧ H2 p = some u ∧
  ∀ u', (∃ f, u' = HO.ext f) → DB P w (upd H2 p u') p [(k, v)] → Q (.ref p) (upd H2 p u')
theorem pe_dispB {ek ev : Expr} {tk : TE} (hu : X.A.units + 1 < cLine) (hk : PE X ek tk) (hv : PE X ev tv) : PE X (.Dict [some ek] [ev] pos) (tDispB X.prog X.w tk tv) := by
  refine ⟨fun pins s σ H Q I q => ?_⟩
  have hn := I.hok.fresh (Nat.le_refl s.heap.objs.size)
  have I1 := I.laid (a := s.heap.objs.size) (o := .ext fun h => h.get? s.heap.objs.size = some { cls := .type "dict", data := .dict #[] }) (h' := s.heap.push { cls := .type "dict", data := .dict #[] }) (t' := s.toks)
    (fun _ _ q => Heap.get?_push_of_some _ q) (Nat.le_refl _) ⟨Heap.get?_push_size _ rfl, ⟨_, Heap.get?_push_size _ rfl⟩, fun h1 h2 x y => y _ x⟩
  have hsh := zip_pairTrees [some ek] [ev] X.env pos rfl rfl
  rw [arm_eval_Dict, hsh, dictDisplay_pairs (pairTrees [some ek] [ev] X.env pos) (fun e => nomatch e) (by show 1 < 17; decide)]
  refine wpAny_bind (wpAny_standAt (wpAny_bind (wpAny_subDictH (knd := tupleKind (PpSet.boolK X.prog X.w)) (show X.A.units < cLine by omega) (by show 1 ≤ 15; decide) ?_)))
  refine pairTrees_cons_walk (thn (hk.run pins _ σ _ _ I1 (q _ _ hn ⟨_, rfl⟩)) fun kv s1 ⟨y, H1, I2, ry, q1⟩ => thn (hv.run pins s1 σ H1 _ I2 q1) fun vv s2 ⟨v, H2, I3, rv, b, k, ey, eb, ep, q2⟩ => ?_)
  subst ey
  cases ry
  refine pairTrees_nil_walk ?_
  obtain ⟨hg, _, _⟩ := (show ObjOk X.prog X.w H2 s2.heap _ (.ext fun h => h.get? s.heap.objs.size = some { cls := .type "dict", data := .dict #[] }) from I3.hok _ _ ep)
  have hd : (s.heap.objs.size == sysModules) = false := beq_eq_false_iff_ne.mpr (Nat.ne_of_gt I.big)
  refine ⟨[(k, b, vv)], ⟨rfl, rfl, keyB_of I3.hok eb, trivial⟩, ⟨_, #[], _, hg, ⟨rfl, rfl, rfl⟩, rfl, rfl, (fun x hx => nomatch hx), List.nodup_nil⟩, fun h' tk dd hs => ?_⟩
  obtain ⟨o, es, epo, ho, h2, h3, h4, _, h5⟩ := dd
  have I4 : Inv X pins σ (upd H2 s.heap.objs.size (.ext fun h => h.get? s.heap.objs.size = some o)) { s2 with heap := h', toks := tk } := d_write I3 (by rw [ep]; exact True.intro) hs ⟨o, ho⟩ ⟨ho, ⟨o, ho⟩, fun h1 h2 x y => y _ x⟩
  refine wpAny_pure ⟨.ref s.heap.objs.size, _, I4, rfl, q2 _ ⟨_, rfl⟩ ⟨(by show 1 ≤ sizeLine; decide), hd, o, _, upd_same, ?_, h2, ⟨es, epo, h3, h4⟩, h5⟩⟩
  refine .cons ⟨rfl, ?_, rv⟩ .nil
  rw [upd_ne (ne_of eb ep (fun z => nomatch z))]
  exact eb
end
end Lk
/-! printed by gen_names.py -/
namespace Lk
open PySem PySem.Spec PyProof.Rows L2
section
variable {K : PySem.W.Frag} {mg : Str → Option Value}
theorem g_is_whole (D : Hd K mg) : mg "is_whole" = some (.ref (He.ga K "is_whole")) := D.glo 0 _ rfl
theorem g_between (D : Hd K mg) : mg "between" = some (.ref (He.ga K "between")) := D.glo 1 _ rfl
theorem g_is_name (D : Hd K mg) : mg "is_name" = some (.ref (He.ga K "is_name")) := D.glo 2 _ rfl
theorem g_is_saying (D : Hd K mg) : mg "is_saying" = some (.ref (He.ga K "is_saying")) := D.glo 3 _ rfl
theorem g_parts_of (D : Hd K mg) : mg "parts_of" = some (.ref (He.ga K "parts_of")) := D.glo 4 _ rfl
theorem g_gathered (D : Hd K mg) : mg "gathered" = some (.ref (He.ga K "gathered")) := D.glo 5 _ rfl
theorem g_are_names (D : Hd K mg) : mg "are_names" = some (.ref (He.ga K "are_names")) := D.glo 6 _ rfl
theorem g_stands_free (D : Hd K mg) : mg "stands_free" = some (.ref (He.ga K "stands_free")) := D.glo 7 _ rfl
theorem g_are_sayings (D : Hd K mg) : mg "are_sayings" = some (.ref (He.ga K "are_sayings")) := D.glo 8 _ rfl
theorem g_is_wish (D : Hd K mg) : mg "is_wish" = some (.ref (He.ga K "is_wish")) := D.glo 9 _ rfl
theorem g_sayings_of (D : Hd K mg) : mg "sayings_of" = some (.ref (He.ga K "sayings_of")) := D.glo 10 _ rfl
theorem g_pieces_of (D : Hd K mg) : mg "pieces_of" = some (.ref (He.ga K "pieces_of")) := D.glo 11 _ rfl
theorem g_is_book (D : Hd K mg) : mg "is_book" = some (.ref (He.ga K "is_book")) := D.glo 12 _ rfl
theorem g_checked (D : Hd K mg) : mg "checked" = some (.ref (He.ga K "checked")) := D.glo 13 _ rfl
theorem g_is_setting (D : Hd K mg) : mg "is_setting" = some (.ref (He.ga K "is_setting")) := D.glo 14 _ rfl
theorem g_need_play (D : Hd K mg) : mg "need_play" = some (.ref (He.ga K "need_play")) := D.glo 15 _ rfl
theorem g_joined (D : Hd K mg) : mg "joined" = some (.ref (He.ga K "joined")) := D.glo 16 _ rfl
theorem g_past_row (D : Hd K mg) : mg "past_row" = some (.ref (He.ga K "past_row")) := D.glo 17 _ rfl
theorem g_truth_row (D : Hd K mg) : mg "truth_row" = some (.ref (He.ga K "truth_row")) := D.glo 18 _ rfl
theorem g_first_without (D : Hd K mg) : mg "first_without" = some (.ref (He.ga K "first_without")) := D.glo 19 _ rfl
theorem g_first_breaks (D : Hd K mg) : mg "first_breaks" = some (.ref (He.ga K "first_breaks")) := D.glo 20 _ rfl
theorem g_losses (D : Hd K mg) : mg "losses" = some (.ref (He.ga K "losses")) := D.glo 21 _ rfl
theorem g_settings_of (D : Hd K mg) : mg "settings_of" = some (.ref (He.ga K "settings_of")) := D.glo 22 _ rfl
theorem g_answers_to (D : Hd K mg) : mg "answers_to" = some (.ref (He.ga K "answers_to")) := D.glo 23 _ rfl
theorem g_game_of (D : Hd K mg) : mg "game_of" = some (.ref (He.ga K "game_of")) := D.glo 24 _ rfl
theorem g_game (D : Hd K mg) : mg "game" = some (.ref (He.ga K "game")) := D.glo 25 _ rfl
theorem g_divisor (D : Hd K mg) : mg "divisor" = some (.ref (He.ga K "divisor")) := D.glo 26 _ rfl
theorem g_lowest (D : Hd K mg) : mg "lowest" = some (.ref (He.ga K "lowest")) := D.glo 27 _ rfl
theorem g_met_from (D : Hd K mg) : mg "met_from" = some (.ref (He.ga K "met_from")) := D.glo 28 _ rfl
theorem g_is_above (D : Hd K mg) : mg "is_above" = some (.ref (He.ga K "is_above")) := D.glo 29 _ rfl
theorem g_walked (D : Hd K mg) : mg "walked" = some (.ref (He.ga K "walked")) := D.glo 30 _ rfl
theorem g_worst_of (D : Hd K mg) : mg "worst_of" = some (.ref (He.ga K "worst_of")) := D.glo 31 _ rfl
theorem g_is_stand (D : Hd K mg) : mg "is_stand" = some (.ref (He.ga K "is_stand")) := D.glo 32 _ rfl
theorem g_is_machine (D : Hd K mg) : mg "is_machine" = some (.ref (He.ga K "is_machine")) := D.glo 33 _ rfl
theorem g_need_machine (D : Hd K mg) : mg "need_machine" = some (.ref (He.ga K "need_machine")) := D.glo 34 _ rfl
theorem g_checked_machine (D : Hd K mg) : mg "checked_machine" = some (.ref (He.ga K "checked_machine")) := D.glo 35 _ rfl
theorem g_run (D : Hd K mg) : mg "run" = some (.ref (He.ga K "run")) := D.glo 36 _ rfl
theorem g_around (D : Hd K mg) : mg "around" = some (.ref (He.ga K "around")) := D.glo 37 _ rfl
theorem g_judged (D : Hd K mg) : mg "judged" = some (.ref (He.ga K "judged")) := D.glo 38 _ rfl
theorem g_law_cell_at (D : Hd K mg) : mg "_law_cell_at" = some (.ref (He.ga K "_law_cell_at")) := D.glo 39 _ rfl
theorem g_law_mixed (D : Hd K mg) : mg "_law_mixed" = some (.ref (He.ga K "_law_mixed")) := D.glo 40 _ rfl
theorem g_law_next (D : Hd K mg) : mg "_law_next" = some (.ref (He.ga K "_law_next")) := D.glo 41 _ rfl
theorem g_law_names (D : Hd K mg) : mg "_law_names" = some (.ref (He.ga K "_law_names")) := D.glo 42 _ rfl
theorem g_law_saying (D : Hd K mg) : mg "_law_saying" = some (.ref (He.ga K "_law_saying")) := D.glo 43 _ rfl
theorem g_law_promise (D : Hd K mg) : mg "_law_promise" = some (.ref (He.ga K "_law_promise")) := D.glo 44 _ rfl
theorem g_law_book (D : Hd K mg) : mg "_law_book" = some (.ref (He.ga K "_law_book")) := D.glo 45 _ rfl
theorem g_law_settings (D : Hd K mg) : mg "_law_settings" = some (.ref (He.ga K "_law_settings")) := D.glo 46 _ rfl
theorem g_law_machine (D : Hd K mg) : mg "_law_machine" = some (.ref (He.ga K "_law_machine")) := D.glo 47 _ rfl
theorem g_law_product (D : Hd K mg) : mg "_law_product" = some (.ref (He.ga K "_law_product")) := D.glo 48 _ rfl
theorem g_law_none_worse (D : Hd K mg) : mg "_law_none_worse" = some (.ref (He.ga K "_law_none_worse")) := D.glo 49 _ rfl
theorem g_law_whole (D : Hd K mg) : mg "_law_whole" = some (.ref (He.ga K "_law_whole")) := D.glo 50 _ rfl
theorem g_law_is_mean (D : Hd K mg) : mg "_law_is_mean" = some (.ref (He.ga K "_law_is_mean")) := D.glo 51 _ rfl
theorem g_law_is_endless (D : Hd K mg) : mg "_law_is_endless" = some (.ref (He.ga K "_law_is_endless")) := D.glo 52 _ rfl
theorem g_law_has_ring (D : Hd K mg) : mg "_law_has_ring" = some (.ref (He.ga K "_law_has_ring")) := D.glo 53 _ rfl
theorem g_law_rings (D : Hd K mg) : mg "_law_rings" = some (.ref (He.ga K "_law_rings")) := D.glo 54 _ rfl
theorem g_law (D : Hd K mg) : mg "law" = some (.ref (He.ga K "law")) := D.glo 55 _ rfl
theorem g_Teller (D : Hd K mg) : mg "Teller" = some (.ref (He.ga K "Teller")) := D.glo 56 _ rfl
theorem cl_Teller (D : Hd K mg) : Cls K (He.ga K "Teller") := He.cls_ok (D.facts 57 _ rfl)
theorem mk_Teller (D : Hd K mg) : Mk K (He.ga K "Teller") (He.ma K (He.ga K "Teller") "__init__") := He.mkr_ok (D.facts 58 _ rfl)
theorem na_Teller_book (D : Hd K mg) : NoAttr K (He.ga K "Teller") "book" := He.noat_ok (D.facts 59 _ rfl)
theorem na_Teller_names (D : Hd K mg) : NoAttr K (He.ga K "Teller") "names" := He.noat_ok (D.facts 60 _ rfl)
theorem na_Teller_pieces (D : Hd K mg) : NoAttr K (He.ga K "Teller") "pieces" := He.noat_ok (D.facts 61 _ rfl)
theorem mt_Teller_first (D : Hd K mg) : Meth K (He.ga K "Teller") "first" (He.ma K (He.ga K "Teller") "first") := He.meth_ok (D.facts 62 _ rfl)
theorem mt_Teller_past (D : Hd K mg) : Meth K (He.ga K "Teller") "past" (He.ma K (He.ga K "Teller") "past") := He.meth_ok (D.facts 63 _ rfl)
theorem mt_Teller_holds (D : Hd K mg) : Meth K (He.ga K "Teller") "holds" (He.ma K (He.ga K "Teller") "holds") := He.meth_ok (D.facts 64 _ rfl)
theorem mt_Teller_behind (D : Hd K mg) : Meth K (He.ga K "Teller") "behind" (He.ma K (He.ga K "Teller") "behind") := He.meth_ok (D.facts 65 _ rfl)
theorem mt_Teller_keeps (D : Hd K mg) : Meth K (He.ga K "Teller") "keeps" (He.ma K (He.ga K "Teller") "keeps") := He.meth_ok (D.facts 66 _ rfl)
theorem mt_Teller_loss (D : Hd K mg) : Meth K (He.ga K "Teller") "loss" (He.ma K (He.ga K "Teller") "loss") := He.meth_ok (D.facts 67 _ rfl)
theorem g_Judge (D : Hd K mg) : mg "Judge" = some (.ref (He.ga K "Judge")) := D.glo 68 _ rfl
theorem cl_Judge (D : Hd K mg) : Cls K (He.ga K "Judge") := He.cls_ok (D.facts 69 _ rfl)
theorem mk_Judge (D : Hd K mg) : Mk K (He.ga K "Judge") (He.ma K (He.ga K "Judge") "__init__") := He.mkr_ok (D.facts 70 _ rfl)
theorem na_Judge_nodes (D : Hd K mg) : NoAttr K (He.ga K "Judge") "nodes" := He.noat_ok (D.facts 71 _ rfl)
theorem na_Judge_machine (D : Hd K mg) : NoAttr K (He.ga K "Judge") "machine" := He.noat_ok (D.facts 72 _ rfl)
theorem na_Judge_order (D : Hd K mg) : NoAttr K (He.ga K "Judge") "order" := He.noat_ok (D.facts 73 _ rfl)
theorem na_Judge_pairs (D : Hd K mg) : NoAttr K (He.ga K "Judge") "pairs" := He.noat_ok (D.facts 74 _ rfl)
theorem na_Judge_graph (D : Hd K mg) : NoAttr K (He.ga K "Judge") "graph" := He.noat_ok (D.facts 75 _ rfl)
theorem na_Judge_sets (D : Hd K mg) : NoAttr K (He.ga K "Judge") "sets" := He.noat_ok (D.facts 76 _ rfl)
theorem na_Judge_ahead (D : Hd K mg) : NoAttr K (He.ga K "Judge") "ahead" := He.noat_ok (D.facts 77 _ rfl)
theorem mt_Judge_edge (D : Hd K mg) : Meth K (He.ga K "Judge") "edge" (He.ma K (He.ga K "Judge") "edge") := He.meth_ok (D.facts 78 _ rfl)
theorem mt_Judge_way (D : Hd K mg) : Meth K (He.ga K "Judge") "way" (He.ma K (He.ga K "Judge") "way") := He.meth_ok (D.facts 79 _ rfl)
theorem mt_Judge_grow (D : Hd K mg) : Meth K (He.ga K "Judge") "grow" (He.ma K (He.ga K "Judge") "grow") := He.meth_ok (D.facts 80 _ rfl)
theorem mt_Judge_heights (D : Hd K mg) : Meth K (He.ga K "Judge") "heights" (He.ma K (He.ga K "Judge") "heights") := He.meth_ok (D.facts 81 _ rfl)
theorem mt_Judge_ring (D : Hd K mg) : Meth K (He.ga K "Judge") "ring" (He.ma K (He.ga K "Judge") "ring") := He.meth_ok (D.facts 82 _ rfl)
theorem g_len (D : Hd K mg) : mg "len" = none := D.free 83 _ rfl
theorem g_isinstance (D : Hd K mg) : mg "isinstance" = none := D.free 84 _ rfl
theorem g_all (D : Hd K mg) : mg "all" = none := D.free 85 _ rfl
theorem g_any (D : Hd K mg) : mg "any" = none := D.free 86 _ rfl
theorem g_int (D : Hd K mg) : mg "int" = none := D.free 87 _ rfl
theorem g_bool (D : Hd K mg) : mg "bool" = none := D.free 88 _ rfl
theorem g_str (D : Hd K mg) : mg "str" = none := D.free 89 _ rfl
theorem g_tuple (D : Hd K mg) : mg "tuple" = none := D.free 90 _ rfl
theorem g_list (D : Hd K mg) : mg "list" = none := D.free 91 _ rfl
theorem g_range (D : Hd K mg) : mg "range" = none := D.free 92 _ rfl
theorem g_sum (D : Hd K mg) : mg "sum" = none := D.free 93 _ rfl
theorem g_max (D : Hd K mg) : mg "max" = none := D.free 94 _ rfl
theorem g_zip (D : Hd K mg) : mg "zip" = none := D.free 95 _ rfl
theorem g_WORDS (D : Hd K mg) : mg "WORDS" = some (.ref (He.ga K "WORDS")) := D.glo 96 _ rfl
theorem g_SINGLE (D : Hd K mg) : mg "SINGLE" = some (.ref (He.ga K "SINGLE")) := D.glo 97 _ rfl
theorem g_DOUBLE (D : Hd K mg) : mg "DOUBLE" = some (.ref (He.ga K "DOUBLE")) := D.glo 98 _ rfl
theorem g_PAST (D : Hd K mg) : mg "PAST" = some (.ref (He.ga K "PAST")) := D.glo 99 _ rfl
theorem g_LETTERS (D : Hd K mg) : ∃ t, mg "LETTERS" = some (.str "abcdefghijklmnopqrstuvwxyz" t) := D.str_ 100 _ _ rfl
theorem g_DEPTH (D : Hd K mg) : ∃ t, mg "DEPTH" = some (.int 8 t) := D.int_ 101 _ _ rfl
theorem g_PIECES (D : Hd K mg) : ∃ t, mg "PIECES" = some (.int 4 t) := D.int_ 102 _ _ rfl
theorem g_PRICE (D : Hd K mg) : ∃ t, mg "PRICE" = some (.int 99 t) := D.int_ 103 _ _ rfl
theorem g_STANDS (D : Hd K mg) : ∃ t, mg "STANDS" = some (.int 64 t) := D.int_ 104 _ _ rfl
theorem F_is_whole (D : Hd K mg) : ∃ fd, FunD K "is_whole" "is_whole" (defArgs s_is_whole) (defBody s_is_whole) (defScope s_is_whole) [] [] (He.ga K "is_whole") fd := D.defs 0 _ rfl
theorem F_between (D : Hd K mg) : ∃ fd, FunD K "between" "between" (defArgs s_between) (defBody s_between) (defScope s_between) [] [] (He.ga K "between") fd := D.defs 1 _ rfl
theorem F_is_name (D : Hd K mg) : ∃ fd, FunD K "is_name" "is_name" (defArgs s_is_name) (defBody s_is_name) (defScope s_is_name) [] [] (He.ga K "is_name") fd := D.defs 2 _ rfl
theorem F_is_saying (D : Hd K mg) : ∃ fd, FunD K "is_saying" "is_saying" (defArgs s_is_saying) (defBody s_is_saying) (defScope s_is_saying) [] [] (He.ga K "is_saying") fd := D.defs 3 _ rfl
theorem F_parts_of (D : Hd K mg) : ∃ fd, FunD K "parts_of" "parts_of" (defArgs s_parts_of) (defBody s_parts_of) (defScope s_parts_of) [] [] (He.ga K "parts_of") fd := D.defs 4 _ rfl
theorem F_gathered (D : Hd K mg) : ∃ fd, FunD K "gathered" "gathered" (defArgs s_gathered) (defBody s_gathered) (defScope s_gathered) [] [] (He.ga K "gathered") fd := D.defs 5 _ rfl
theorem F_are_names (D : Hd K mg) : ∃ fd, FunD K "are_names" "are_names" (defArgs s_are_names) (defBody s_are_names) (defScope s_are_names) [] [] (He.ga K "are_names") fd := D.defs 6 _ rfl
theorem F_stands_free (D : Hd K mg) : ∃ fd, FunD K "stands_free" "stands_free" (defArgs s_stands_free) (defBody s_stands_free) (defScope s_stands_free) [] [] (He.ga K "stands_free") fd := D.defs 7 _ rfl
theorem F_are_sayings (D : Hd K mg) : ∃ fd, FunD K "are_sayings" "are_sayings" (defArgs s_are_sayings) (defBody s_are_sayings) (defScope s_are_sayings) [] [] (He.ga K "are_sayings") fd := D.defs 8 _ rfl
theorem F_is_wish (D : Hd K mg) : ∃ fd, FunD K "is_wish" "is_wish" (defArgs s_is_wish) (defBody s_is_wish) (defScope s_is_wish) [] [] (He.ga K "is_wish") fd := D.defs 9 _ rfl
theorem F_sayings_of (D : Hd K mg) : ∃ fd, FunD K "sayings_of" "sayings_of" (defArgs s_sayings_of) (defBody s_sayings_of) (defScope s_sayings_of) [] [] (He.ga K "sayings_of") fd := D.defs 10 _ rfl
theorem F_pieces_of (D : Hd K mg) : ∃ fd, FunD K "pieces_of" "pieces_of" (defArgs s_pieces_of) (defBody s_pieces_of) (defScope s_pieces_of) [] [] (He.ga K "pieces_of") fd := D.defs 11 _ rfl
theorem F_is_book (D : Hd K mg) : ∃ fd, FunD K "is_book" "is_book" (defArgs s_is_book) (defBody s_is_book) (defScope s_is_book) [] [] (He.ga K "is_book") fd := D.defs 12 _ rfl
theorem F_checked (D : Hd K mg) : ∃ fd, FunD K "checked" "checked" (defArgs s_checked) (defBody s_checked) (defScope s_checked) [] [] (He.ga K "checked") fd := D.defs 13 _ rfl
theorem F_is_setting (D : Hd K mg) : ∃ fd, FunD K "is_setting" "is_setting" (defArgs s_is_setting) (defBody s_is_setting) (defScope s_is_setting) [] [] (He.ga K "is_setting") fd := D.defs 14 _ rfl
theorem F_need_play (D : Hd K mg) : ∃ fd, FunD K "need_play" "need_play" (defArgs s_need_play) (defBody s_need_play) (defScope s_need_play) [] [] (He.ga K "need_play") fd := D.defs 15 _ rfl
theorem F_joined (D : Hd K mg) : ∃ fd, FunD K "joined" "joined" (defArgs s_joined) (defBody s_joined) (defScope s_joined) [] [] (He.ga K "joined") fd := D.defs 16 _ rfl
theorem F_past_row (D : Hd K mg) : ∃ fd, FunD K "past_row" "past_row" (defArgs s_past_row) (defBody s_past_row) (defScope s_past_row) [] [] (He.ga K "past_row") fd := D.defs 17 _ rfl
theorem F_truth_row (D : Hd K mg) : ∃ fd, FunD K "truth_row" "truth_row" (defArgs s_truth_row) (defBody s_truth_row) (defScope s_truth_row) [] [] (He.ga K "truth_row") fd := D.defs 18 _ rfl
theorem F_first_without (D : Hd K mg) : ∃ fd, FunD K "first_without" "first_without" (defArgs s_first_without) (defBody s_first_without) (defScope s_first_without) [] [] (He.ga K "first_without") fd := D.defs 19 _ rfl
theorem F_first_breaks (D : Hd K mg) : ∃ fd, FunD K "first_breaks" "first_breaks" (defArgs s_first_breaks) (defBody s_first_breaks) (defScope s_first_breaks) [] [] (He.ga K "first_breaks") fd := D.defs 20 _ rfl
theorem F_losses (D : Hd K mg) : ∃ fd, FunD K "losses" "losses" (defArgs s_losses) (defBody s_losses) (defScope s_losses) [] [] (He.ga K "losses") fd := D.defs 21 _ rfl
theorem F_settings_of (D : Hd K mg) : ∃ fd, FunD K "settings_of" "settings_of" (defArgs s_settings_of) (defBody s_settings_of) (defScope s_settings_of) [] [] (He.ga K "settings_of") fd := D.defs 22 _ rfl
theorem F_Teller_init (D : Hd K mg) : ∃ fd, FunD K "__init__" "Teller.__init__" (defArgs s_Teller_init) (defBody s_Teller_init) (defScope s_Teller_init) [] [] (He.ma K (He.ga K "Teller") "__init__") fd := D.defs 23 _ rfl
theorem F_Teller_first (D : Hd K mg) : ∃ fd, FunD K "first" "Teller.first" (defArgs s_Teller_first) (defBody s_Teller_first) (defScope s_Teller_first) [] [] (He.ma K (He.ga K "Teller") "first") fd := D.defs 24 _ rfl
theorem F_Teller_past (D : Hd K mg) : ∃ fd, FunD K "past" "Teller.past" (defArgs s_Teller_past) (defBody s_Teller_past) (defScope s_Teller_past) [] [] (He.ma K (He.ga K "Teller") "past") fd := D.defs 25 _ rfl
theorem F_Teller_holds (D : Hd K mg) : ∃ fd, FunD K "holds" "Teller.holds" (defArgs s_Teller_holds) (defBody s_Teller_holds) (defScope s_Teller_holds) [] [] (He.ma K (He.ga K "Teller") "holds") fd := D.defs 26 _ rfl
theorem F_Teller_behind (D : Hd K mg) : ∃ fd, FunD K "behind" "Teller.behind" (defArgs s_Teller_behind) (defBody s_Teller_behind) (defScope s_Teller_behind) [] [] (He.ma K (He.ga K "Teller") "behind") fd := D.defs 27 _ rfl
theorem F_Teller_keeps (D : Hd K mg) : ∃ fd, FunD K "keeps" "Teller.keeps" (defArgs s_Teller_keeps) (defBody s_Teller_keeps) (defScope s_Teller_keeps) [] [] (He.ma K (He.ga K "Teller") "keeps") fd := D.defs 28 _ rfl
theorem F_Teller_loss (D : Hd K mg) : ∃ fd, FunD K "loss" "Teller.loss" (defArgs s_Teller_loss) (defBody s_Teller_loss) (defScope s_Teller_loss) [] [] (He.ma K (He.ga K "Teller") "loss") fd := D.defs 29 _ rfl
theorem F_answers_to (D : Hd K mg) : ∃ fd, FunD K "answers_to" "answers_to" (defArgs s_answers_to) (defBody s_answers_to) (defScope s_answers_to) [] [] (He.ga K "answers_to") fd := D.defs 30 _ rfl
theorem F_game_of (D : Hd K mg) : ∃ fd, FunD K "game_of" "game_of" (defArgs s_game_of) (defBody s_game_of) (defScope s_game_of) [] [] (He.ga K "game_of") fd := D.defs 31 _ rfl
theorem F_game (D : Hd K mg) : ∃ fd, FunD K "game" "game" (defArgs s_game) (defBody s_game) (defScope s_game) [] [] (He.ga K "game") fd := D.defs 32 _ rfl
theorem F_divisor (D : Hd K mg) : ∃ fd, FunD K "divisor" "divisor" (defArgs s_divisor) (defBody s_divisor) (defScope s_divisor) [] [] (He.ga K "divisor") fd := D.defs 33 _ rfl
theorem F_lowest (D : Hd K mg) : ∃ fd, FunD K "lowest" "lowest" (defArgs s_lowest) (defBody s_lowest) (defScope s_lowest) [] [] (He.ga K "lowest") fd := D.defs 34 _ rfl
theorem F_met_from (D : Hd K mg) : ∃ fd, FunD K "met_from" "met_from" (defArgs s_met_from) (defBody s_met_from) (defScope s_met_from) [] [] (He.ga K "met_from") fd := D.defs 35 _ rfl
theorem F_is_above (D : Hd K mg) : ∃ fd, FunD K "is_above" "is_above" (defArgs s_is_above) (defBody s_is_above) (defScope s_is_above) [] [] (He.ga K "is_above") fd := D.defs 36 _ rfl
theorem F_walked (D : Hd K mg) : ∃ fd, FunD K "walked" "walked" (defArgs s_walked) (defBody s_walked) (defScope s_walked) [] [] (He.ga K "walked") fd := D.defs 37 _ rfl
theorem F_worst_of (D : Hd K mg) : ∃ fd, FunD K "worst_of" "worst_of" (defArgs s_worst_of) (defBody s_worst_of) (defScope s_worst_of) [] [] (He.ga K "worst_of") fd := D.defs 38 _ rfl
theorem F_is_stand (D : Hd K mg) : ∃ fd, FunD K "is_stand" "is_stand" (defArgs s_is_stand) (defBody s_is_stand) (defScope s_is_stand) [] [] (He.ga K "is_stand") fd := D.defs 39 _ rfl
theorem F_is_machine (D : Hd K mg) : ∃ fd, FunD K "is_machine" "is_machine" (defArgs s_is_machine) (defBody s_is_machine) (defScope s_is_machine) [] [] (He.ga K "is_machine") fd := D.defs 40 _ rfl
theorem F_need_machine (D : Hd K mg) : ∃ fd, FunD K "need_machine" "need_machine" (defArgs s_need_machine) (defBody s_need_machine) (defScope s_need_machine) [] [] (He.ga K "need_machine") fd := D.defs 41 _ rfl
theorem F_checked_machine (D : Hd K mg) : ∃ fd, FunD K "checked_machine" "checked_machine" (defArgs s_checked_machine) (defBody s_checked_machine) (defScope s_checked_machine) [] [] (He.ga K "checked_machine") fd := D.defs 42 _ rfl
theorem F_run (D : Hd K mg) : ∃ fd, FunD K "run" "run" (defArgs s_run) (defBody s_run) (defScope s_run) [] [] (He.ga K "run") fd := D.defs 43 _ rfl
theorem F_Judge_init (D : Hd K mg) : ∃ fd, FunD K "__init__" "Judge.__init__" (defArgs s_Judge_init) (defBody s_Judge_init) (defScope s_Judge_init) [] [] (He.ma K (He.ga K "Judge") "__init__") fd := D.defs 44 _ rfl
theorem F_Judge_edge (D : Hd K mg) : ∃ fd, FunD K "edge" "Judge.edge" (defArgs s_Judge_edge) (defBody s_Judge_edge) (defScope s_Judge_edge) [] [] (He.ma K (He.ga K "Judge") "edge") fd := D.defs 45 _ rfl
theorem F_Judge_way (D : Hd K mg) : ∃ fd, FunD K "way" "Judge.way" (defArgs s_Judge_way) (defBody s_Judge_way) (defScope s_Judge_way) [] [] (He.ma K (He.ga K "Judge") "way") fd := D.defs 46 _ rfl
theorem F_Judge_grow (D : Hd K mg) : ∃ fd, FunD K "grow" "Judge.grow" (defArgs s_Judge_grow) (defBody s_Judge_grow) (defScope s_Judge_grow) [] [] (He.ma K (He.ga K "Judge") "grow") fd := D.defs 47 _ rfl
theorem F_Judge_heights (D : Hd K mg) : ∃ fd, FunD K "heights" "Judge.heights" (defArgs s_Judge_heights) (defBody s_Judge_heights) (defScope s_Judge_heights) [] [] (He.ma K (He.ga K "Judge") "heights") fd := D.defs 48 _ rfl
theorem F_Judge_ring (D : Hd K mg) : ∃ fd, FunD K "ring" "Judge.ring" (defArgs s_Judge_ring) (defBody s_Judge_ring) (defScope s_Judge_ring) [] [] (He.ma K (He.ga K "Judge") "ring") fd := D.defs 49 _ rfl
theorem F_around (D : Hd K mg) : ∃ fd, FunD K "around" "around" (defArgs s_around) (defBody s_around) (defScope s_around) [] [] (He.ga K "around") fd := D.defs 50 _ rfl
theorem F_judged (D : Hd K mg) : ∃ fd, FunD K "judged" "judged" (defArgs s_judged) (defBody s_judged) (defScope s_judged) [] [] (He.ga K "judged") fd := D.defs 51 _ rfl
theorem F_law_cell_at (D : Hd K mg) : ∃ fd, FunD K "_law_cell_at" "_law_cell_at" (defArgs s_law_cell_at) (defBody s_law_cell_at) (defScope s_law_cell_at) [] [] (He.ga K "_law_cell_at") fd := D.defs 52 _ rfl
theorem F_law_mixed (D : Hd K mg) : ∃ fd, FunD K "_law_mixed" "_law_mixed" (defArgs s_law_mixed) (defBody s_law_mixed) (defScope s_law_mixed) [] [] (He.ga K "_law_mixed") fd := D.defs 53 _ rfl
theorem F_law_next (D : Hd K mg) : ∃ fd, FunD K "_law_next" "_law_next" (defArgs s_law_next) (defBody s_law_next) (defScope s_law_next) [] [] (He.ga K "_law_next") fd := D.defs 54 _ rfl
theorem F_law_names (D : Hd K mg) : ∃ fd, FunD K "_law_names" "_law_names" (defArgs s_law_names) (defBody s_law_names) (defScope s_law_names) [] [] (He.ga K "_law_names") fd := D.defs 55 _ rfl
theorem F_law_saying (D : Hd K mg) : ∃ fd, FunD K "_law_saying" "_law_saying" (defArgs s_law_saying) (defBody s_law_saying) (defScope s_law_saying) [] [] (He.ga K "_law_saying") fd := D.defs 56 _ rfl
theorem F_law_promise (D : Hd K mg) : ∃ fd, FunD K "_law_promise" "_law_promise" (defArgs s_law_promise) (defBody s_law_promise) (defScope s_law_promise) [] [] (He.ga K "_law_promise") fd := D.defs 57 _ rfl
theorem F_law_book (D : Hd K mg) : ∃ fd, FunD K "_law_book" "_law_book" (defArgs s_law_book) (defBody s_law_book) (defScope s_law_book) [] [] (He.ga K "_law_book") fd := D.defs 58 _ rfl
theorem F_law_settings (D : Hd K mg) : ∃ fd, FunD K "_law_settings" "_law_settings" (defArgs s_law_settings) (defBody s_law_settings) (defScope s_law_settings) [] [] (He.ga K "_law_settings") fd := D.defs 59 _ rfl
theorem F_law_machine (D : Hd K mg) : ∃ fd, FunD K "_law_machine" "_law_machine" (defArgs s_law_machine) (defBody s_law_machine) (defScope s_law_machine) [] [] (He.ga K "_law_machine") fd := D.defs 60 _ rfl
theorem F_law_product (D : Hd K mg) : ∃ fd, FunD K "_law_product" "_law_product" (defArgs s_law_product) (defBody s_law_product) (defScope s_law_product) [] [] (He.ga K "_law_product") fd := D.defs 61 _ rfl
theorem F_law_none_worse (D : Hd K mg) : ∃ fd, FunD K "_law_none_worse" "_law_none_worse" (defArgs s_law_none_worse) (defBody s_law_none_worse) (defScope s_law_none_worse) [] [] (He.ga K "_law_none_worse") fd := D.defs 62 _ rfl
theorem F_law_whole (D : Hd K mg) : ∃ fd, FunD K "_law_whole" "_law_whole" (defArgs s_law_whole) (defBody s_law_whole) (defScope s_law_whole) [] [] (He.ga K "_law_whole") fd := D.defs 63 _ rfl
theorem F_law_is_mean (D : Hd K mg) : ∃ fd, FunD K "_law_is_mean" "_law_is_mean" (defArgs s_law_is_mean) (defBody s_law_is_mean) (defScope s_law_is_mean) [] [] (He.ga K "_law_is_mean") fd := D.defs 64 _ rfl
theorem F_law_is_endless (D : Hd K mg) : ∃ fd, FunD K "_law_is_endless" "_law_is_endless" (defArgs s_law_is_endless) (defBody s_law_is_endless) (defScope s_law_is_endless) [] [] (He.ga K "_law_is_endless") fd := D.defs 65 _ rfl
theorem F_law_has_ring (D : Hd K mg) : ∃ fd, FunD K "_law_has_ring" "_law_has_ring" (defArgs s_law_has_ring) (defBody s_law_has_ring) (defScope s_law_has_ring) [] [] (He.ga K "_law_has_ring") fd := D.defs 66 _ rfl
theorem F_law_rings (D : Hd K mg) : ∃ fd, FunD K "_law_rings" "_law_rings" (defArgs s_law_rings) (defBody s_law_rings) (defScope s_law_rings) [] [] (He.ga K "_law_rings") fd := D.defs 67 _ rfl
theorem F_law (D : Hd K mg) : ∃ fd, FunD K "law" "law" (defArgs s_law) (defBody s_law) (defScope s_law) [] [] (He.ga K "law") fd := D.defs 68 _ rfl
theorem t_WORDS (D : Hd K mg) (H : Hp) : SqT K H (He.ga K "WORDS") (cWORDS.map (He.Dv.v K)) := He.tupB_ok (He.ba (He.ba (He.ba (show exB K = true from D.tups)).1).1).1 H
theorem t_SINGLE (D : Hd K mg) (H : Hp) : SqT K H (He.ga K "SINGLE") (cSINGLE.map (He.Dv.v K)) := He.tupB_ok (He.ba (He.ba (He.ba (show exB K = true from D.tups)).1).1).2 H
theorem t_DOUBLE (D : Hd K mg) (H : Hp) : SqT K H (He.ga K "DOUBLE") (cDOUBLE.map (He.Dv.v K)) := He.tupB_ok (He.ba (He.ba (show exB K = true from D.tups)).1).2 H
theorem t_PAST (D : Hd K mg) (H : Hp) : SqT K H (He.ga K "PAST") (cPAST.map (He.Dv.v K)) := He.tupB_ok (He.ba (show exB K = true from D.tups)).2 H
end
end Lk
namespace Lk
open PySem PySem.Spec PyProof.Rows L2
/-! ### loops and comprehensions -/
def ForB (J : It) (g : TG) (tb : TS) (D : Ends) (σ : L2.St) (H : Hp) : Prop := ∃ W : Nat → Nat → L2.St → Hp → Prop, (∃ m, W 0 m σ H) ∧ ∀ i m σ H, W i m σ H →
  (J.stop i H ∧ D.nx σ H) ∨ (J.go i H ∧ ∃ N : L2.St → Hp → Prop, (∀ σ' H', N σ' H' → ∃ m', m' < m ∧ W (i + 1) m' σ' H') ∧ ∀ x H', J.yld i H x H' → g x σ H' fun σ2 H2 => tb { D with nx := N, ct := N, bk := D.nx } σ2 H2)
def LcB (J : It) (g : TG) (tt : TT) (te : TE) (vs : List Nat) (σ : L2.St) (H1 : Hp) (Q : VK) : Prop := ∀ D, H1 D = none → ∃ W : Nat → Nat → Hp → Prop, (∃ m, W 0 m (upd H1 D (.lst []))) ∧ ∀ i m H, W i m H →
  (J.stop i H ∧ Q (.ref D) H) ∨ (J.go i H ∧ ∃ Nx : Hp → Prop, (∀ H', Nx H' → ∃ m', m' < m ∧ W (i + 1) m' H') ∧ ∀ x H', J.yld i H x H' → g x (wipe σ vs) H' fun σ2 H2 => wipe σ2 vs = wipe σ vs ∧ tt σ2 H2 fun b H3 =>
    if b = true then te σ2 H3 fun y H4 => ∃ acc, H4 D = some (.lst acc) ∧ acc.length < sizeLine ∧ Nx (upd H4 D (.lst (acc ++ [y]))) else Nx H3)
/-- behind i items: all is as it was, the new list holds zs i -/
def LcP (H : Hp) (D : Addr) (zs : Nat → List V) (i : Nat) (H' : Hp) : Prop := Same H H' ∧ H' D = some (.lst (zs i))
section
variable {K : PySem.W.Frag} {wi : TI} {g : TG} {tb : TS} {tt : TT} {te tl : TE} {vs : List Nat} {D : Ends} {σ : L2.St} {H H4 : Hp} {Q : VK} {a b : Addr} {xs ys : List V} {zs : Nat → List V}
theorem l_for (q : wi σ H fun J H1 => ForB J g tb D σ H1) : tFor wi g tb D σ H := q
theorem l_lc (q : wi σ H fun J H1 => LcB J g tt te vs σ H1 Q) : tLc wi g tt te vs σ H Q := q
theorem l_itT {R : It → Hp → Prop} (q : tl σ H fun x H1 => ∃ a, x = .ref a ∧ (∃ xs, SqT K H1 a xs) ∧ R (Itt K a) H1) : iTup K tl σ H R := q
theorem l_itL {R : It → Hp → Prop} (q : tl σ H fun x H1 => ∃ a, x = .ref a ∧ (∃ xs, SqL K H1 a xs) ∧ R (Itl K a) H1) : iList K tl σ H R := q
theorem l_itR {ta : TA} {R : It → Hp → Prop} (q : ta σ H fun vs H1 => ∃ j : Int, vs = [.int j] ∧ -(2 ^ 62) ≤ j ∧ j < 2 ^ 62 ∧ R (Itr 0 j.toNat) H1) : iRng1 ta σ H R := q
theorem l_itS {R : It → Hp → Prop} (q : tl σ H fun v H1 => ∃ x, v = .str x ∧ R (Its x) H1) : iStr tl σ H R := q
theorem l_itZ {ta : TA} {R : It → Hp → Prop} (q : ta σ H fun vs H1 => ∃ a b xs ys, vs = [.ref a, .ref b] ∧ SqL K H1 a xs ∧ SqL K H1 b ys ∧ R (Itz K a b) H1) : iZip K ta σ H R := q
theorem l_yes {Q : Bool → Hp → Prop} (q : Q true H) : tYes σ H Q := q
theorem lc_put {Dd : Addr} {i : Nat} {y : V} (hD : H Dd = none) (e : Same H H4) (h : H4 Dd = some (.lst (zs i))) (hz : (zs i).length < sizeLine) (q : zs (i + 1) = zs i ++ [y]) :
    ∃ acc, H4 Dd = some (.lst acc) ∧ acc.length < sizeLine ∧ LcP H Dd zs (i + 1) (upd H4 Dd (.lst (acc ++ [y]))) := ⟨_, h, hz, same_mut e hD, by rw [upd_same, q]⟩
theorem lc_skip {Dd : Addr} {i : Nat} (e : Same H H4) (h : H4 Dd = some (.lst (zs i))) (q : zs (i + 1) = zs i) : LcP H Dd zs (i + 1) H4 := ⟨e, by rw [q]; exact h⟩
/-- [te for g in t if tt], t a tuple -/
theorem lcT (hx : SqT K H a xs) (zs : Nat → List V) (z0 : zs 0 = [])
    (hs : ∀ Dd i x H', H Dd = none → xs[i]? = some x → Same H H' → H' Dd = some (.lst (zs i)) → g x (wipe σ vs) H' fun σ2 H2 => wipe σ2 vs = wipe σ vs ∧ tt σ2 H2 fun b H3 =>
      if b = true then te σ2 H3 fun y H4 => ∃ acc, H4 Dd = some (.lst acc) ∧ acc.length < sizeLine ∧ LcP H Dd zs (i + 1) (upd H4 Dd (.lst (acc ++ [y]))) else LcP H Dd zs (i + 1) H3)
    (hd : ∀ Dd H', H Dd = none → Same H H' → H' Dd = some (.lst (zs xs.length)) → Q (.ref Dd) H') :
    ∃ a', V.ref a = .ref a' ∧ (∃ xs, SqT K H a' xs) ∧ LcB (Itt K a') g tt te vs σ H Q :=
  ⟨a, rfl, ⟨xs, hx⟩, fun Dd hD => lc_tup (K := K) (a := a) (xs := xs) (LcP H Dd zs) ⟨same_new hD, by rw [z0]; exact upd_same⟩ (fun _ _ _ p => sqt_same p.1 hx) (fun i x H' hi p => hs Dd i x H' hD hi p.1 p.2) fun H' p => hd Dd H' hD p.1 p.2⟩
theorem lcL (hx : SqL K H a xs) (zs : Nat → List V) (z0 : zs 0 = [])
    (hs : ∀ Dd i x H', H Dd = none → xs[i]? = some x → Same H H' → H' Dd = some (.lst (zs i)) → g x (wipe σ vs) H' fun σ2 H2 => wipe σ2 vs = wipe σ vs ∧ tt σ2 H2 fun b H3 =>
      if b = true then te σ2 H3 fun y H4 => ∃ acc, H4 Dd = some (.lst acc) ∧ acc.length < sizeLine ∧ LcP H Dd zs (i + 1) (upd H4 Dd (.lst (acc ++ [y]))) else LcP H Dd zs (i + 1) H3)
    (hd : ∀ Dd H', H Dd = none → Same H H' → H' Dd = some (.lst (zs xs.length)) → Q (.ref Dd) H') :
    ∃ a', V.ref a = .ref a' ∧ (∃ xs, SqL K H a' xs) ∧ LcB (Itl K a') g tt te vs σ H Q :=
  ⟨a, rfl, ⟨xs, hx⟩, fun Dd hD => lc_list (K := K) (a := a) (xs := xs) (LcP H Dd zs) ⟨same_new hD, by rw [z0]; exact upd_same⟩ (fun _ _ _ p => p.1.seq hx) (fun i x H' hi p => hs Dd i x H' hD hi p.1 p.2) fun H' p => hd Dd H' hD p.1 p.2⟩
theorem lcR {n : Nat} (zs : Nat → List V) (z0 : zs 0 = []) (hn : n ≤ 1000000)
    (hs : ∀ (Dd : Addr) (i : Nat) H', H Dd = none → i < n → Same H H' → H' Dd = some (.lst (zs i)) → g (.int (i : Nat)) (wipe σ vs) H' fun σ2 H2 => wipe σ2 vs = wipe σ vs ∧ tt σ2 H2 fun b H3 =>
      if b = true then te σ2 H3 fun y H4 => ∃ acc, H4 Dd = some (.lst acc) ∧ acc.length < sizeLine ∧ LcP H Dd zs (i + 1) (upd H4 Dd (.lst (acc ++ [y]))) else LcP H Dd zs (i + 1) H3)
    (hd : ∀ Dd H', H Dd = none → Same H H' → H' Dd = some (.lst (zs n)) → Q (.ref Dd) H') :
    ∃ j : Int, [V.int (n : Nat)] = [.int j] ∧ -(2 ^ 62) ≤ j ∧ j < 2 ^ 62 ∧ LcB (Itr 0 j.toNat) g tt te vs σ H Q := by
  refine ⟨(n : Nat), rfl, by omega, by omega, fun Dd hD => ?_⟩
  rw [Int.toNat_natCast]
  refine lc_range (lo := 0) (n := n) (LcP H Dd zs) ⟨same_new hD, by rw [z0]; exact upd_same⟩ (fun i H' hi p => ?_) fun H' p => hd Dd H' hD p.1 p.2
  rw [Int.zero_add]
  exact hs Dd i H' hD hi p.1 p.2
theorem lcS {z : Str} (zs : Nat → List V) (z0 : zs 0 = [])
    (hs : ∀ (Dd : Addr) (i c : Nat) H', H Dd = none → z.cps.toList[i]? = some c → Same H H' → H' Dd = some (.lst (zs i)) → g (.str ⟨#[c]⟩) (wipe σ vs) H' fun σ2 H2 => wipe σ2 vs = wipe σ vs ∧ tt σ2 H2 fun b H3 =>
      if b = true then te σ2 H3 fun y H4 => ∃ acc, H4 Dd = some (.lst acc) ∧ acc.length < sizeLine ∧ LcP H Dd zs (i + 1) (upd H4 Dd (.lst (acc ++ [y]))) else LcP H Dd zs (i + 1) H3)
    (hd : ∀ Dd H', H Dd = none → Same H H' → H' Dd = some (.lst (zs z.cps.toList.length)) → Q (.ref Dd) H') :
    ∃ x, V.str z = .str x ∧ LcB (Its x) g tt te vs σ H Q := by
  refine ⟨z, rfl, fun Dd hD => ?_⟩
  refine lc_it (walk_str (z := z)) (LcP H Dd zs) ⟨same_new hD, by rw [z0]; exact upd_same⟩ (fun _ _ _ _ => True.intro) (fun i x H' H'' hi p y => ?_) fun H' p => hd Dd H' hD p.1 (by rw [Array.length_toList]; exact p.2)
  obtain ⟨e, c, hc, ex⟩ := y
  subst e ex
  exact hs Dd i c _ hD (by rw [← hc]; simp) p.1 p.2
/-- the same with a word of one's own -/
theorem lcTP (hx : SqT K H a xs) (Pv : Addr → Nat → Hp → Prop) (h0 : ∀ Dd, H Dd = none → Pv Dd 0 (upd H Dd (.lst []))) (hl : ∀ Dd i H', Pv Dd i H' → SqT K H' a xs)
    (hs : ∀ Dd i x H', H Dd = none → xs[i]? = some x → Pv Dd i H' → g x (wipe σ vs) H' fun σ2 H2 => wipe σ2 vs = wipe σ vs ∧ tt σ2 H2 fun b H3 =>
      if b = true then te σ2 H3 fun y H4 => ∃ acc, H4 Dd = some (.lst acc) ∧ acc.length < sizeLine ∧ Pv Dd (i + 1) (upd H4 Dd (.lst (acc ++ [y]))) else Pv Dd (i + 1) H3)
    (hd : ∀ Dd H', H Dd = none → Pv Dd xs.length H' → Q (.ref Dd) H') :
    ∃ a', V.ref a = .ref a' ∧ (∃ xs, SqT K H a' xs) ∧ LcB (Itt K a') g tt te vs σ H Q :=
  ⟨a, rfl, ⟨xs, hx⟩, fun Dd hD => lc_tup (K := K) (a := a) (xs := xs) (Pv Dd) (h0 Dd hD) (fun i H' _ p => hl Dd i H' p) (fun i x H' hi p => hs Dd i x H' hD hi p) fun H' p => hd Dd H' hD p⟩
theorem lcLP (hx : SqL K H a xs) (Pv : Addr → Nat → Hp → Prop) (h0 : ∀ Dd, H Dd = none → Pv Dd 0 (upd H Dd (.lst []))) (hl : ∀ Dd i H', Pv Dd i H' → SqL K H' a xs)
    (hs : ∀ Dd i x H', H Dd = none → xs[i]? = some x → Pv Dd i H' → g x (wipe σ vs) H' fun σ2 H2 => wipe σ2 vs = wipe σ vs ∧ tt σ2 H2 fun b H3 =>
      if b = true then te σ2 H3 fun y H4 => ∃ acc, H4 Dd = some (.lst acc) ∧ acc.length < sizeLine ∧ Pv Dd (i + 1) (upd H4 Dd (.lst (acc ++ [y]))) else Pv Dd (i + 1) H3)
    (hd : ∀ Dd H', H Dd = none → Pv Dd xs.length H' → Q (.ref Dd) H') :
    ∃ a', V.ref a = .ref a' ∧ (∃ xs, SqL K H a' xs) ∧ LcB (Itl K a') g tt te vs σ H Q :=
  ⟨a, rfl, ⟨xs, hx⟩, fun Dd hD => lc_list (K := K) (a := a) (xs := xs) (Pv Dd) (h0 Dd hD) (fun i H' _ p => hl Dd i H' p) (fun i x H' hi p => hs Dd i x H' hD hi p) fun H' p => hd Dd H' hD p⟩
theorem lcRP {n : Nat} (Pv : Addr → Nat → Hp → Prop) (hn : n ≤ 1000000) (h0 : ∀ Dd, H Dd = none → Pv Dd 0 (upd H Dd (.lst [])))
    (hs : ∀ Dd (i : Nat) H', H Dd = none → i < n → Pv Dd i H' → g (.int (i : Nat)) (wipe σ vs) H' fun σ2 H2 => wipe σ2 vs = wipe σ vs ∧ tt σ2 H2 fun b H3 =>
      if b = true then te σ2 H3 fun y H4 => ∃ acc, H4 Dd = some (.lst acc) ∧ acc.length < sizeLine ∧ Pv Dd (i + 1) (upd H4 Dd (.lst (acc ++ [y]))) else Pv Dd (i + 1) H3)
    (hd : ∀ Dd H', H Dd = none → Pv Dd n H' → Q (.ref Dd) H') :
    ∃ j : Int, [V.int (n : Nat)] = [.int j] ∧ -(2 ^ 62) ≤ j ∧ j < 2 ^ 62 ∧ LcB (Itr 0 j.toNat) g tt te vs σ H Q := by
  refine ⟨(n : Nat), rfl, by omega, by omega, fun Dd hD => ?_⟩
  rw [Int.toNat_natCast]
  refine lc_range (lo := 0) (n := n) (Pv Dd) (h0 Dd hD) (fun i H' hi p => ?_) fun H' p => hd Dd H' hD p
  rw [Int.zero_add]
  exact hs Dd i H' hD hi p
/-- for g in t: tb, t a tuple -/
theorem forT (hx : SqT K H a xs) (Pv : Nat → L2.St → Hp → Prop) (h0 : Pv 0 σ H) (hl : ∀ i σ' H', i ≤ xs.length → Pv i σ' H' → SqT K H' a xs)
    (hs : ∀ i x σ' H', xs[i]? = some x → Pv i σ' H' → g x σ' H' fun σ2 H2 => tb { D with nx := Pv (i + 1), ct := Pv (i + 1), bk := D.nx } σ2 H2) (hd : ∀ σ' H', Pv xs.length σ' H' → D.nx σ' H') :
    ∃ a', V.ref a = .ref a' ∧ (∃ xs, SqT K H a' xs) ∧ ForB (Itt K a') g tb D σ H := ⟨a, rfl, ⟨xs, hx⟩, for_tup Pv h0 hl hs hd⟩
theorem forL (hx : SqL K H a xs) (Pv : Nat → L2.St → Hp → Prop) (h0 : Pv 0 σ H) (hl : ∀ i σ' H', i ≤ xs.length → Pv i σ' H' → SqL K H' a xs)
    (hs : ∀ i x σ' H', xs[i]? = some x → Pv i σ' H' → g x σ' H' fun σ2 H2 => tb { D with nx := Pv (i + 1), ct := Pv (i + 1), bk := D.nx } σ2 H2) (hd : ∀ σ' H', Pv xs.length σ' H' → D.nx σ' H') :
    ∃ a', V.ref a = .ref a' ∧ (∃ xs, SqL K H a' xs) ∧ ForB (Itl K a') g tb D σ H := ⟨a, rfl, ⟨xs, hx⟩, for_list Pv h0 hl hs hd⟩
theorem forR {n : Nat} (Pv : Nat → L2.St → Hp → Prop) (hn : n ≤ 1000000) (h0 : Pv 0 σ H)
    (hs : ∀ (i : Nat) σ' H', i < n → Pv i σ' H' → g (.int (i : Nat)) σ' H' fun σ2 H2 => tb { D with nx := Pv (i + 1), ct := Pv (i + 1), bk := D.nx } σ2 H2) (hd : ∀ σ' H', Pv n σ' H' → D.nx σ' H') :
    ∃ j : Int, [V.int (n : Nat)] = [.int j] ∧ -(2 ^ 62) ≤ j ∧ j < 2 ^ 62 ∧ ForB (Itr 0 j.toNat) g tb D σ H := by
  refine ⟨(n : Nat), rfl, by omega, by omega, ?_⟩
  rw [Int.toNat_natCast]
  refine for_range (lo := 0) (n := n) Pv h0 (fun i σ' H' hi p => ?_) hd
  rw [Int.zero_add]
  exact hs i σ' H' hi p
theorem forZ (hx : SqL K H a xs) (hy : SqL K H b ys) (hl : xs.length = ys.length) (Pv : Nat → L2.St → Hp → Prop) (h0 : Pv 0 σ H) (hq : ∀ i σ' H', Pv i σ' H' → SqL K H' a xs ∧ SqL K H' b ys)
    (hs : ∀ (i : Nat) (x y : V) (T : Addr) σ' H', xs[i]? = some x → ys[i]? = some y → Pv i σ' H' → H' T = none → g (.ref T) σ' (upd H' T (.tup [x, y])) fun σ2 H2 => tb { D with nx := Pv (i + 1), ct := Pv (i + 1), bk := D.nx } σ2 H2) (hd : ∀ σ' H', Pv xs.length σ' H' → D.nx σ' H') :
    ∃ a' b' xs ys, [V.ref a, V.ref b] = [.ref a', .ref b'] ∧ SqL K H a' xs ∧ SqL K H b' ys ∧ ForB (Itz K a' b') g tb D σ H := ⟨a, b, xs, ys, rfl, hx, hy, RZ.for_zipL hl Pv h0 hq hs hd⟩
end
section
variable {K : PySem.W.Frag} {H : Hp} {Q : VK} {B : String} {b : Bool} {a : Addr} {xs : List V}
theorem l_isiInt {i : Int} (e : kitB "int" B = some b) (q : Q (.bl b) H) : rIsi K [.int i, .ty B] H Q := l_isi (.base (.int i)) e q
theorem l_isiBl {i : Bool} (e : kitB "bool" B = some b) (q : Q (.bl b) H) : rIsi K [.bl i, .ty B] H Q := l_isi (.base (.bl i)) e q
theorem l_isiStr {i : Str} (e : kitB "str" B = some b) (q : Q (.bl b) H) : rIsi K [.str i, .ty B] H Q := l_isi (.base (.str i)) e q
theorem l_isiNon (e : kitB "NoneType" B = some b) (q : Q (.bl b) H) : rIsi K [.non, .ty B] H Q := l_isi (.base .non) e q
theorem l_isiTup (h : SqT K H a xs) (e : kitB "tuple" B = some b) (q : Q (.bl b) H) : rIsi K [.ref a, .ty B] H Q := l_isi (tyx_tup h) e q
theorem l_isiLst (h : H a = some (.lst xs)) (e : kitB "list" B = some b) (q : Q (.bl b) H) : rIsi K [.ref a, .ty B] H Q := l_isi (tyx_lst h) e q
end
section
variable {X : Cx} {x : Str} {pos : Pos} {a : Addr} {i : Int} {z : Str} {t : Tok}
theorem pe_gref (hm : X.mg x = some (.ref a)) (hg : Gl X x := by rfl) (hd : (x == ("__debug__" : Str)) = false := by decide) : PE X (.Name x pos) (tC (.ref a)) := pe_glob (v := .ref a) hg hm rfl hd
theorem pe_gint (hm : X.mg x = some (.int i t)) (hg : Gl X x := by rfl) (hd : (x == ("__debug__" : Str)) = false := by decide) : PE X (.Name x pos) (tC (.int i)) := pe_glob (v := .int i) hg hm ⟨t, rfl⟩ hd
theorem pe_gstr (hm : X.mg x = some (.str z t)) (hg : Gl X x := by rfl) (hd : (x == ("__debug__" : Str)) = false := by decide) : PE X (.Name x pos) (tC (.str z)) := pe_glob (v := .str z) hg hm ⟨t, rfl⟩ hd
end
theorem atI_zero {α : Type} {x : α} {xs : List α} : atI (x :: xs) 0 = some x := atI_nat (j := 0) rfl
theorem l_ixT0 {K : PySem.W.Frag} {H : Hp} {Q : VK} {a : Addr} {x : V} {xs : List V} (h : SqT K H a (x :: xs)) (q : Q x H) : rIxT K (.ref a) (.int 0) H Q := l_ixT h atI_zero q
theorem l_catD {K : PySem.W.Frag} {H : Hp} {Q : VK} {a b : Addr} {xs ys : List V} (h1 : SqT K H a xs) (h2 : SqT K H b ys) (hz : xs.length + ys.length ≤ sizeLine)
    (q : ∀ c H', Same H H' → SqT K H' c (xs ++ ys) → Q (.ref c) H') : rCatA K (.ref a) (.ref b) H Q := by
  refine l_catA h1 h2 hz (fun e => q b H (Same.refl H) (by rw [e, List.nil_append]; exact h2)) (fun _ e => q a H (Same.refl H) (by rw [e, List.append_nil]; exact h1)) fun _ _ p hp => q p _ (same_new hp) (SqT.of upd_same)
/-- all but l is as it was -/
def SameBut (l : Addr) (H H' : Hp) : Prop := ∀ b o, b ≠ l → H b = some o → H' b = some o
theorem SameBut.refl (l : Addr) (H : Hp) : SameBut l H H := fun _ _ _ h => h
theorem SameBut.trans {l : Addr} {H H1 H2 : Hp} (a : SameBut l H H1) (b : SameBut l H1 H2) : SameBut l H H2 := fun c o n h => b c o n (a c o n h)
theorem SameBut.of_same {l : Addr} {H H' : Hp} (e : Same H H') : SameBut l H H' := fun b o _ h => e b o h
theorem SameBut.upd {l : Addr} {H : Hp} {o : HO} : SameBut l H (upd H l o) := fun b u n h => by rw [upd_ne n]; exact h
theorem SameBut.same {l : Addr} {H0 H H' : Hp} (e : Same H0 H) (h : H0 l = none) (s : SameBut l H H') : Same H0 H' := fun b o q => s b o (ne_of_none q h) (e b o q)
theorem SameBut.tup {K : PySem.W.Frag} {l : Addr} {H H' : Hp} {ys : List V} (hl : H l = some (.lst ys)) (s : SameBut l H H') : TupX K H H' := by
  intro a xs h
  rcases h with (h | ⟨q, h⟩) | h
  · exact .inl (.inl (s _ _ (ne_of h hl (by intro z; cases z)) h))
  · exact .inl (.inr ⟨q, s _ _ (ne_of h hl (by intro z; cases z)) h⟩)
  · exact .inr h
section
variable {K : PySem.W.Frag} {H : Hp} {Q : VK} {a b : Addr} {xs ys : List V} {y : V}
theorem l_catN (h1 : H a = some (.lst xs)) (h2 : H b = some (.lst ys)) (hz : xs.length + ys.length ≤ sizeLine) (q : ∀ p H', Same H H' → H p = none → H' p = some (.lst (xs ++ ys)) → Q (.ref p) H') : rCat (.ref a) (.ref b) H Q :=
  l_cat h1 h2 hz fun p hp => q p _ (same_new hp) hp upd_same
theorem l_slLN {lo hi : Option Int} (h : SqL K H a xs) (q : ∀ p H', Same H H' → H p = none → H' p = some (.lst (cutV xs lo hi)) → Q (.ref p) H') : rSlL K (.ref a) lo hi H Q := l_slL h fun p hp => q p _ (same_new hp) hp upd_same
theorem l_mkL (hz : xs.length ≤ sizeLine) (q : ∀ p H', Same H H' → H p = none → H' p = some (.lst xs) → Q (.ref p) H') : MkL xs H Q := ⟨hz, fun p hp => q p _ (same_new hp) hp upd_same⟩
theorem l_mkL0 (q : ∀ p H', Same H H' → H p = none → H' p = some (.lst []) → Q (.ref p) H') : MkL [] H Q := l_mkL (xs := []) (Nat.zero_le _) q
theorem l_mkT (hz : xs.length ≤ sizeLine) (q : ∀ p H', Same H H' → H p = none → H' p = some (.tup xs) → Q (.ref p) H') : MkT xs H Q := ⟨hz, fun p hp => q p _ (same_new hp) hp upd_same⟩
theorem l_appN (h : H a = some (.lst xs)) (hz : xs.length < sizeLine) (q : ∀ H', SameBut a H H' → H' a = some (.lst (xs ++ [y])) → Q .non H') : rAppend (.ref a) [y] H Q := l_app h hz (q _ SameBut.upd upd_same)
end
/-! ### the rules, the written part named -/
section
variable {X : Cx} (K : PySem.W.Frag)
theorem ix_listK (h : X.K = K := by rfl) : IxR X (rIxL K) := h ▸ ix_list
theorem ix_tupK (h : X.K = K := by rfl) : IxR X (rIxT K) := h ▸ ix_tup
theorem sl_listK (h : X.K = K := by rfl) : SlR X (rSlL K) := h ▸ sl_list
theorem sl_tupK (h : X.K = K := by rfl) : SlR X (rSlA K) := h ▸ sl_tupA
theorem cl_lenK (h : X.K = K := by rfl) : CallR X (.builtin "len") (rLen K) := h ▸ cl_len
theorem cl_tupK (h : X.K = K := by rfl) : CallR X (.type "tuple") (rTupOf K) := h ▸ cl_tup
theorem cl_listK (h : X.K = K := by rfl) : CallR X (.type "list") (rListOf K) := h ▸ cl_list
theorem cr_allK (hc : X.calm = true) (h : X.K = K := by rfl) : CallR X (.builtin "all") (rAll K) := h ▸ cr_all hc
theorem cr_anyK (hc : X.calm = true) (h : X.K = K := by rfl) : CallR X (.builtin "any") (rAny K) := h ▸ cr_any hc
theorem cr_sumK (hc : X.calm = true) (h : X.K = K := by rfl) : CallR X (.builtin "sum") (rSum K) := h ▸ cr_sum hc
theorem cl_isiK (h : X.K = K := by rfl) : CallR X (.builtin "isinstance") (rIsi K) := h ▸ call_isi
theorem op_inK (h : X.K = K := by rfl) : OpR X (compareOp .In) (rIn K false) := h ▸ op_in_seq
theorem op_niK (h : X.K = K := by rfl) : OpR X (compareOp .NotIn) (rIn K true) := h ▸ op_notIn_seq
theorem op_inDK (hu : X.A.units + 65 < cLine) (h : X.K = K := by rfl) : OpR X (compareOp .In) (rInD K) := h ▸ op_inD hu
theorem op_niDK (hu : X.A.units + 65 < cLine) (h : X.K = K := by rfl) : OpR X (compareOp .NotIn) (rNotInD K) := h ▸ op_notInD hu
theorem mt_ixDK (hu : X.A.units + 65 < cLine) (h : X.K = K := by rfl) : MtR X "list.index" (rIndexD K) := h ▸ mt_indexD hu
theorem mt_tixK (h : X.K = K := by rfl) : MtR X "tuple.index" (rTIx K) := h ▸ mt_tix
theorem mt_tcntK (hu : X.A.units + 65 < cLine) (h : X.K = K := by rfl) : MtR X "tuple.count" (rTCnt K) := h ▸ mt_tcnt hu
theorem op_eqDK (hu : X.A.units + 64 < cLine) (h : X.K = K := by rfl) : OpR X (compareOp .Eq) (rEqD K) := h ▸ op_eqD hu
theorem op_neDK (hu : X.A.units + 64 < cLine) (h : X.K = K := by rfl) : OpR X (compareOp .NotEq) (rNeD K) := h ▸ op_neD hu
theorem op_catAK (h : X.K = K := by rfl) : OpR X (binaryOp .Add) (rCatA K) := h ▸ op_catA
theorem op_catFK (h : X.K = K := by rfl) : OpR X (binaryOp .Add) (rCatF K) := h ▸ op_catF
theorem op_repAK (h : X.K = K := by rfl) : OpR X (binaryOp .Mult) (rRepA K) := h ▸ op_repA
variable {tg l e o value : Expr} {es : List Expr} {tl te ta tv to : TE} {t : TA} {pos apos cpos pos' tpos p p2 p1 p3 : Pos} {k n : Nat} {tgs : TGs} {f m x C : Str} {ps : List Str} {lv : Nat} {sp : Sp}
theorem pi_listK (hl : PE X l tl) (h : X.K = K := by rfl) : PI X tg l (iList K tl) := h ▸ pi_list hl
theorem pi_tupK (hl : PE X l tl) (h : X.K = K := by rfl) : PI X tg l (iTup K tl) := h ▸ pi_tup hl
theorem pi_zipK {e2 : Expr} {elts : List Expr} {kk : Nat} (hg : Gl X "zip") (hm : X.mg "zip" = none) (ha : PA X [e, e2] t) (h : X.K = K := by rfl)
    (hs : starEach [e, e2] X.env = (false, eval e X.env) :: starEach [e2] X.env := by rfl) (hpl : (backTo pos (starEach [e2] X.env)).any (·.1) = false := by rfl) :
    PI X (.Tuple elts kk tpos) (.Call (.Name "zip" p) [e, e2] [] pos) (iZip K t) := h ▸ pi_zip hg hm ha hs hpl
theorem pg_tupK {n : Nat} (hc : X.calm = true) (ht : PGs X es tgs) (h : X.K = K := by rfl) (hn : (assignEach es X.env).length = n := by rfl) (hst : (assignEach es X.env).findIdx? (·.1) = none := by rfl) : PG X (.Tuple es k pos) (gTup K n tgs) := h ▸ pg_tup hc ht hn hst
theorem pe_fldK (he : PE X e ta) (h : X.K = K := by rfl) (hb : attributeBase e f X.env (eval e X.env) = eval e X.env := by rfl) : PE X (.Attribute e f pos) (tFld K ta f) := h ▸ pe_fld he hb
theorem ps_fldK (ha : PE X o ta) (hv : PE X value tv) (h : X.K = K := by rfl) (hs : swapsWith value (some (.Attribute o f pos')) pos.line X.env = pure false := by rfl) : PS X (.Assign [.Attribute o f pos'] value pos) (sFld K ta tv f) := h ▸ ps_fld ha hv hs
theorem pe_mtK {pl : Sem Bool} (ho : PE X o ta) (hO : OkM X.prog X.w X.K X.mg X.base C m ps lv sp) (hr : Room k X.A) (ha : PA X (e :: es) t) (h : X.K = K := by rfl) (hk : lv ≤ k := by first | decide | omega)
    (hst : starEach (e :: es) X.env = (false, eval e X.env) :: starEach es X.env := by rfl) (hpl : (backTo pos (starEach es X.env)).any (·.1) = false := by rfl)
    (ht : eval (.Call (.Attribute o m apos) (e :: es) [] pos) X.env = (do
      let ov ← eval o X.env
      standAt apos.atName
      let (f, first) ← holding [ov] (getMethod ov m pl)
      callWith pos f first (backTo pos (starEach (e :: es) X.env)) (backToKw pos (keywordEach [] X.env))) := by rfl) :
    PE X (.Call (.Attribute o m apos) (e :: es) [] pos) (tMeth (He.ga K C) m sp [] E0 ta t) := by
  rw [← h]
  exact pe_mt ho hO hr ha hk hst hpl ht
theorem pe_mt0K {pl : Sem Bool} (ho : PE X o ta) (hO : OkM X.prog X.w X.K X.mg X.base C m ps lv sp) (hr : Room k X.A) (h : X.K = K := by rfl) (hk : lv ≤ k := by first | decide | omega)
    (ht : eval (.Call (.Attribute o m apos) [] [] pos) X.env = (do
      let ov ← eval o X.env
      standAt apos.atName
      let (f, first) ← holding [ov] (getMethod ov m pl)
      callWith pos f first (backTo pos (starEach [] X.env)) (backToKw pos (keywordEach [] X.env))) := by rfl) :
    PE X (.Call (.Attribute o m apos) [] [] pos) (tMeth (He.ga K C) m sp [] E0 ta tNil) := by
  rw [← h]
  exact pe_mt0 ho hO hr hk ht
theorem pe_mkK (hO : OkC X.prog X.w X.K X.mg X.base x ps lv sp) (hr : Room k X.A) (ha : PA X (e :: es) t) (h : X.K = K := by rfl) (hk : lv + 1 ≤ k := by first | decide | omega) (hg : Gl X x := by rfl)
    (hdb : (x == ("__debug__" : Str)) = false := by decide) (he : starEach (e :: es) X.env = (false, eval e X.env) :: starEach es X.env := by rfl) (hpl : (backTo pos (starEach es X.env)).any (·.1) = false := by rfl) :
    PE X (.Call (.Name x p) (e :: es) [] pos) (tMake (He.ga K x) sp [] E0 t) := by
  rw [← h]
  exact pe_mk hO hr ha hk hg hdb he hpl
theorem pe_bmK {T id : String} {r : V → List V → Hp → VK → Prop} {name : Str} (pa : PlainAttrs T) (slot : Slot T name id) (hty : typeOf (.builtin id) = pure (.type "method_descriptor")) (hm : MtR X id r) (ho : PE X o to) (ha : PA X (e :: es) t) (h : X.K = K := by rfl)
    (hbase : attributeBase o name X.env (eval o X.env) = eval o X.env := by rfl)
    (hfew : ((backTo cpos (starEach (e :: es) X.env)).all (fun x => !x.1) && (backToKw cpos (keywordEach [] X.env)).all (fun x => x.1.isSome)
      && decide ((e :: es).length + ([] : List Keyword).length + (if ([] : List Keyword).isEmpty then 0 else 1) < 30)) = true := by rfl)
    (hline : (apos.endLine == cpos.line) = true := by rfl) (hs : starEach (e :: es) X.env = (false, eval e X.env) :: starEach es X.env := by rfl) (hplain : (backTo cpos (starEach es X.env)).any (·.1) = false := by rfl) :
    PE X (.Call (.Attribute o name apos) (e :: es) [] cpos) (tBM K T r to t) := h ▸ pe_bm pa slot hty hm ho ha hbase hfew hline hs hplain
theorem pe_revLK (he : PE X e te) (h : X.K = K := by rfl) : PE X (.Subscript e (.Slice none none (some (.UnaryOp .USub (.Constant (.int 1) k p1) p2)) p3) pos) (tRevL K te) := h ▸ pe_revL he
end
theorem sz {n : Nat} (h : n ≤ 1000000) : n ≤ sizeLine := Nat.le_trans h (by decide)
theorem szl {n : Nat} (h : n ≤ 1000000) : n < sizeLine := Nat.lt_of_le_of_lt h (by decide)
theorem take_get {α : Type} {l : List α} {i : Nat} {x : α} (h : l[i]? = some x) : l.take (i + 1) = l.take i ++ [x] := by
  rw [List.take_add_one, h]
  rfl
end Lk
namespace Lk
open PySem PySem.Spec PyProof.Rows L2
/-! ### sayings, books, settings, as data -/
inductive O1 where
  | nt | bf | on | sf
  deriving DecidableEq
inductive O2 where
  | an | or | th | sm | si
  deriving DecidableEq
def O1.str : O1 → Str
  | .nt => "not" | .bf => "before" | .on => "once" | .sf => "sofar"
def O2.str : O2 → Str
  | .an => "and" | .or => "or" | .th => "then" | .sm => "same" | .si => "since"
inductive Say where
  | lamp (n : Str) | cst (b : Bool) | one (o : O1) (s : Say) | two (o : O2) (s t : Say)
  deriving DecidableEq
def yn (b : Bool) : Str := if b then "yes" else "no"
def Say.enc : Say → PyData
  | .lamp n => .tuple [.str "lamp", .str n]
  | .cst b => .tuple [.str (yn b)]
  | .one o s => .tuple [.str o.str, s.enc]
  | .two o s t => .tuple [.str o.str, s.enc, t.enc]
def Say.parts : Say → List Say
  | .lamp _ => [] | .cst _ => [] | .one _ s => [s] | .two _ s t => [s, t]
def Say.dep : Say → Nat
  | .lamp _ => 1 | .cst _ => 1 | .one _ s => s.dep + 1 | .two _ s t => max s.dep t.dep + 1
def Say.ov (names : List Str) : Say → Prop
  | .lamp n => n ∈ names | .cst _ => True | .one _ s => s.ov names | .two _ s t => s.ov names ∧ t.ov names
def Say.past : Say → Bool
  | .one .nt _ => false | .one _ _ => true | .two .si _ _ => true | _ => false
def addS (ms : List Say) (s : Say) : List Say := if s.past = true ∧ s ∉ ms then ms ++ [s] else ms
/-- the past pieces of a saying, behind those of ms -/
def Say.gather : Say → List Say → List Say
  | .lamp n, ms => addS ms (.lamp n)
  | .cst b, ms => addS ms (.cst b)
  | .one o s, ms => s.gather (addS ms (.one o s))
  | .two o s t, ms => t.gather (s.gather (addS ms (.two o s t)))
def Say.head : Say → Str
  | .lamp _ => "lamp" | .cst b => yn b | .one o _ => o.str | .two o _ _ => o.str
/-- how many sayings stand in it -/
def Say.sz : Say → Nat
  | .lamp _ => 1 | .cst _ => 1 | .one _ s => s.sz + 1 | .two _ s t => s.sz + t.sz + 1
/-- a lamp of some names stands in it, not within a before -/
def Say.free (names : List Str) : Say → Bool
  | .lamp n => decide (n ∈ names)
  | .cst _ => false
  | .one .bf _ => false
  | .one _ s => s.free names
  | .two _ s t => s.free names || t.free names
theorem Say.dep_pos : ∀ s : Say, 1 ≤ s.dep := by
  intro s; cases s <;> simp [Say.dep]
theorem Say.ov_mono {n1 n2 : List Str} (h : ∀ x ∈ n1, x ∈ n2) : ∀ s : Say, s.ov n1 → s.ov n2
  | .lamp n, q => h n q
  | .cst _, _ => trivial
  | .one _ s, q => Say.ov_mono h s q
  | .two _ s t, q => ⟨Say.ov_mono h s q.1, Say.ov_mono h t q.2⟩
theorem Say.ov_parts {n1 : List Str} {s p : Say} (h : s.ov n1) (hp : p ∈ s.parts) : p.ov n1 := by
  cases s with
  | lamp n => cases hp
  | cst b => cases hp
  | one o s => rcases List.mem_singleton.mp hp with rfl; exact h
  | two o s t =>
    rcases List.mem_cons.mp hp with rfl | hp
    · exact h.1
    · rcases List.mem_singleton.mp hp with rfl; exact h.2
theorem Say.dep_parts {s p : Say} (hp : p ∈ s.parts) : p.dep < s.dep := by
  cases s with
  | lamp n => cases hp
  | cst b => cases hp
  | one o s => rcases List.mem_singleton.mp hp with rfl; exact Nat.lt_succ_self _
  | two o s t =>
    rcases List.mem_cons.mp hp with rfl | hp
    · show _ < max _ _ + 1; omega
    · rcases List.mem_singleton.mp hp with rfl; show _ < max _ _ + 1; omega
theorem addS_len (ms : List Say) (s : Say) : (addS ms s).length ≤ ms.length + 1 := by
  unfold addS
  split
  · rw [List.length_append]; exact Nat.le_refl _
  · omega
theorem gather_len : ∀ (s : Say) (ms : List Say), (s.gather ms).length ≤ ms.length + s.sz
  | .lamp n, ms => addS_len ms _
  | .cst b, ms => addS_len ms _
  | .one o s, ms => by
    have h1 := gather_len s (addS ms (.one o s))
    have h2 := addS_len ms (.one o s)
    show (s.gather (addS ms (.one o s))).length ≤ ms.length + (s.sz + 1)
    omega
  | .two o s t, ms => by
    have h1 := gather_len t (s.gather (addS ms (.two o s t)))
    have h2 := gather_len s (addS ms (.two o s t))
    have h3 := addS_len ms (.two o s t)
    show (t.gather (s.gather (addS ms (.two o s t)))).length ≤ ms.length + (s.sz + t.sz + 1)
    omega
theorem sz_lt : ∀ s : Say, s.sz + 1 ≤ 2 ^ s.dep
  | .lamp n => by show 1 + 1 ≤ 2 ^ 1; decide
  | .cst b => by show 1 + 1 ≤ 2 ^ 1; decide
  | .one o s => by
    have h := sz_lt s
    have h2 := Nat.one_le_two_pow (n := s.dep)
    show s.sz + 1 + 1 ≤ 2 ^ (s.dep + 1)
    rw [Nat.pow_succ]; omega
  | .two o s t => by
    have h1 := sz_lt s
    have h2 := sz_lt t
    have p1 : s.dep ≤ max s.dep t.dep := Nat.le_max_left _ _
    have p2 : t.dep ≤ max s.dep t.dep := Nat.le_max_right _ _
    have q1 := Nat.pow_le_pow_right (n := 2) (by decide) p1
    have q2 := Nat.pow_le_pow_right (n := 2) (by decide) p2
    show s.sz + t.sz + 1 + 1 ≤ 2 ^ (max s.dep t.dep + 1)
    rw [Nat.pow_succ]; omega
theorem sz8 {s : Say} (h : s.dep ≤ 8) : s.sz ≤ 256 := by
  have h1 := sz_lt s
  have h2 := Nat.pow_le_pow_right (n := 2) (by decide) h
  omega
theorem gather_fold (ms : List Say) : ∀ s : Say, s.gather ms = s.parts.foldl (fun m p => p.gather m) (addS ms s)
  | .lamp n => rfl
  | .cst b => rfl
  | .one o s => rfl
  | .two o s t => rfl
theorem addS_all {p : Say → Prop} {ms : List Say} {s : Say} (h : ∀ x ∈ ms, p x) (hs : p s) : ∀ x ∈ addS ms s, p x := by
  intro x hx
  unfold addS at hx
  split at hx
  · rcases List.mem_append.mp hx with q | q
    · exact h x q
    · rw [List.mem_singleton.mp q]; exact hs
  · exact h x hx
/-- what holds of a saying and of its parts holds of its past pieces -/
theorem gather_all {p : Say → Prop} (hp : ∀ s, p s → ∀ q ∈ s.parts, p q) : ∀ (s : Say) (ms : List Say), (∀ x ∈ ms, p x) → p s → ∀ x ∈ s.gather ms, p x
  | .lamp n, ms, h, hs => addS_all h hs
  | .cst b, ms, h, hs => addS_all h hs
  | .one o s, ms, h, hs => gather_all hp s _ (addS_all h hs) (hp _ hs s (by simp [Say.parts]))
  | .two o s t, ms, h, hs => gather_all hp t _ (gather_all hp s _ (addS_all h hs) (hp _ hs s (by simp [Say.parts]))) (hp _ hs t (by simp [Say.parts]))
/-- the first place of a thing in a list -/
def ixOf {α : Type} [DecidableEq α] (x : α) : List α → Nat
  | [] => 0
  | y :: ys => if y = x then 0 else ixOf x ys + 1
theorem ixOf_get {α : Type} [DecidableEq α] {x : α} : ∀ {l : List α}, x ∈ l → l[ixOf x l]? = some x
  | [], h => nomatch h
  | y :: ys, h => by
    by_cases e : y = x
    · rw [ixOf, if_pos e, e]; rfl
    · rw [ixOf, if_neg e]
      exact ixOf_get (l := ys) ((List.mem_cons.mp h).resolve_left fun q => e q.symm)
theorem ixOf_lt {α : Type} [DecidableEq α] {x : α} {l : List α} (h : x ∈ l) : ixOf x l < l.length := (List.getElem?_eq_some_iff.mp (ixOf_get h)).1
theorem ixOf_first {α : Type} [DecidableEq α] {x : α} : ∀ {l : List α} {m : Nat}, m < ixOf x l → l[m]? ≠ some x
  | [], m, h => absurd h (Nat.not_lt_zero _)
  | y :: ys, m, h => by
    by_cases e : y = x
    · rw [ixOf, if_pos e] at h; exact absurd h (Nat.not_lt_zero _)
    · rw [ixOf, if_neg e] at h
      cases m with
      | zero => intro q; exact e (Option.some.inj q)
      | succ m => exact ixOf_first (l := ys) (by omega)
theorem ixOf_append {α : Type} [DecidableEq α] {x : α} {m : List α} : ∀ {l : List α}, x ∈ l → ixOf x (l ++ m) = ixOf x l
  | [], h => nomatch h
  | y :: ys, h => by
    show ixOf x (y :: (ys ++ m)) = _
    by_cases e : y = x
    · rw [ixOf, if_pos e, ixOf, if_pos e]
    · rw [ixOf, if_neg e, ixOf, if_neg e, ixOf_append ((List.mem_cons.mp h).resolve_left fun q => e q.symm)]
theorem ixOf_nodup {α : Type} [DecidableEq α] {x : α} {l : List α} (hn : l.Nodup) {i : Nat} (h : l[i]? = some x) : ixOf x l = i := by
  have hm : x ∈ l := List.mem_of_getElem? h
  obtain ⟨h1, e1⟩ := List.getElem?_eq_some_iff.mp (ixOf_get hm)
  obtain ⟨h2, e2⟩ := List.getElem?_eq_some_iff.mp h
  exact (List.getElem_inj hn).mp (e1.trans e2.symm)
/-- the names that the law draws from -/
def LN : List Str := ["a", "b", "x", "y", "lamp", "far", "yesno", "abcdefgh"]
theorem LN_ok : ∀ n ∈ LN, PyData.canLay0 (.str n) = true := by
  intro n hn
  simp only [LN, List.mem_cons, List.not_mem_nil, or_false] at hn
  rcases hn with rfl | rfl | rfl | rfl | rfl | rfl | rfl | rfl <;> decide +kernel
theorem O1.lay (o : O1) : PyData.canLay0 (.str o.str) = true := by cases o <;> decide +kernel
theorem O2.lay (o : O2) : PyData.canLay0 (.str o.str) = true := by cases o <;> decide +kernel
theorem yn.lay (b : Bool) : PyData.canLay0 (.str (yn b)) = true := by cases b <;> decide +kernel
theorem lay_tup {ds : List PyData} : PyData.canLay0 (.tuple ds) = PyData.canLayAll0 ds := by simp only [PyData.canLay0]
theorem lay_lst {ds : List PyData} : PyData.canLay0 (.list ds) = PyData.canLayAll0 ds := by simp only [PyData.canLay0]
theorem lay_cons {d : PyData} {ds : List PyData} : PyData.canLayAll0 (d :: ds) = (PyData.canLay0 d && PyData.canLayAll0 ds) := by simp only [PyData.canLayAll0]
theorem lay_nil : PyData.canLayAll0 [] = true := by simp only [PyData.canLayAll0]
theorem lay_int {i : Int} : PyData.canLay0 (.int i) = true := by simp only [PyData.canLay0]
theorem lay_bl {i : Bool} : PyData.canLay0 (.bool i) = true := by simp only [PyData.canLay0]
theorem lay_non : PyData.canLay0 .none = true := by simp only [PyData.canLay0]
theorem lay_map {α : Type} {f : α → PyData} : ∀ {l : List α}, (∀ x ∈ l, PyData.canLay0 (f x) = true) → PyData.canLayAll0 (l.map f) = true
  | [], _ => by rw [List.map_nil, lay_nil]
  | x :: r, h => by
    rw [List.map_cons, lay_cons, h x (by simp), lay_map fun y hy => h y (by simp [hy])]
    rfl
theorem dep_tup {ds : List PyData} : PyData.depth (.tuple ds) = PyData.depthAll ds + 1 := by simp only [PyData.depth]
theorem dep_lst {ds : List PyData} : PyData.depth (.list ds) = PyData.depthAll ds + 1 := by simp only [PyData.depth]
theorem dep_cons {d : PyData} {ds : List PyData} : PyData.depthAll (d :: ds) = max d.depth (PyData.depthAll ds) := by simp only [PyData.depthAll]
theorem dep_nil : PyData.depthAll [] = 0 := by simp only [PyData.depthAll]
theorem dep_str {z : Str} : PyData.depth (.str z) = 0 := by simp only [PyData.depth]
theorem dep_int {z : Int} : PyData.depth (.int z) = 0 := by simp only [PyData.depth]
theorem dep_bl {z : Bool} : PyData.depth (.bool z) = 0 := by simp only [PyData.depth]
theorem dep_non : PyData.depth .none = 0 := by simp only [PyData.depth]
theorem dep_map {α : Type} {f : α → PyData} {n : Nat} : ∀ {l : List α}, (∀ x ∈ l, (f x).depth ≤ n) → PyData.depthAll (l.map f) ≤ n
  | [], _ => by rw [List.map_nil, dep_nil]; exact Nat.zero_le _
  | x :: r, h => by
    rw [List.map_cons, dep_cons]
    have h1 := h x (by simp)
    have h2 := dep_map (f := f) (n := n) (l := r) fun y hy => h y (List.mem_cons_of_mem _ hy)
    omega
theorem shaped_of {d : PyData} (h1 : PyData.canLay0 d = true) (h2 : d.depth ≤ 64) : SeqAt.shaped d = true := by
  show (d.canLay0 && decide (d.depth ≤ 64)) = true
  rw [h1, decide_eq_true h2]
  rfl
theorem Say.lay : ∀ {s : Say}, s.ov LN → PyData.canLay0 s.enc = true
  | .lamp n, h => by
    rw [Say.enc, lay_tup, lay_cons, lay_cons, lay_nil, LN_ok n h]
    decide +kernel
  | .cst b, _ => by rw [Say.enc, lay_tup, lay_cons, lay_nil, yn.lay]; rfl
  | .one o s, h => by rw [Say.enc, lay_tup, lay_cons, lay_cons, lay_nil, O1.lay, Say.lay (s := s) h]; rfl
  | .two o s t, h => by rw [Say.enc, lay_tup, lay_cons, lay_cons, lay_cons, lay_nil, O2.lay, Say.lay h.1, Say.lay h.2]; rfl
theorem Say.depth_enc : ∀ s : Say, s.enc.depth = s.dep
  | .lamp n => by rw [Say.enc, dep_tup, dep_cons, dep_cons, dep_nil, dep_str, dep_str]; rfl
  | .cst b => by rw [Say.enc, dep_tup, dep_cons, dep_nil, dep_str]; rfl
  | .one o s => by rw [Say.enc, dep_tup, dep_cons, dep_cons, dep_nil, dep_str, Say.depth_enc s]; show max 0 (max s.dep 0) + 1 = s.dep + 1; omega
  | .two o s t => by rw [Say.enc, dep_tup, dep_cons, dep_cons, dep_cons, dep_nil, dep_str, Say.depth_enc s, Say.depth_enc t]; show max 0 (max s.dep (max t.dep 0)) + 1 = max s.dep t.dep + 1; omega
theorem Say.shaped {s : Say} (h : s.ov LN) (hd : s.dep ≤ 60) : SeqAt.shaped s.enc = true := shaped_of (Say.lay h) (by rw [Say.depth_enc]; omega)
theorem Say.shapeds {ms : List Say} (h : ∀ s ∈ ms, s.ov LN ∧ s.dep ≤ 60) : SeqAt.shaped (.list (ms.map Say.enc)) = true := by
  refine shaped_of ?_ ?_
  · rw [lay_lst]; exact lay_map fun s hs => Say.lay (h s hs).1
  · rw [dep_lst]
    have := dep_map (f := Say.enc) (n := 60) (l := ms) fun s hs => by rw [Say.depth_enc]; exact (h s hs).2
    omega
theorem eqv_tup {ds es : List PyData} : PyData.eqv (.tuple ds) (.tuple es) = PyData.eqvAll ds es := by simp only [PyData.eqv]
theorem eqv_lst {ds es : List PyData} : PyData.eqv (.list ds) (.list es) = PyData.eqvAll ds es := by simp only [PyData.eqv]
theorem eqv_str {a b : Str} : PyData.eqv (.str a) (.str b) = decide (a = b) := by
  simp only [PyData.eqv]
  by_cases h : a = b
  · subst h; simp
  · rw [decide_eq_false h]; exact beq_eq_false_iff_ne.mpr h
theorem eqv_int {a b : Int} : PyData.eqv (.int a) (.int b) = decide (a = b) := by
  simp only [PyData.eqv]
  by_cases h : a = b
  · subst h; simp
  · rw [decide_eq_false h]; exact beq_eq_false_iff_ne.mpr h
theorem eqv_bl {a b : Bool} : PyData.eqv (.bool a) (.bool b) = decide (a = b) := by
  simp only [PyData.eqv]
  cases a <;> cases b <;> rfl
theorem eqvA_cons {d e : PyData} {ds es : List PyData} : PyData.eqvAll (d :: ds) (e :: es) = (PyData.eqv d e && PyData.eqvAll ds es) := by simp only [PyData.eqvAll]
theorem eqvA_nil : PyData.eqvAll [] [] = true := by simp only [PyData.eqvAll]
theorem eqvA_nc {d : PyData} {ds : List PyData} : PyData.eqvAll [] (d :: ds) = false := by simp only [PyData.eqvAll]
theorem eqvA_cn {d : PyData} {ds : List PyData} : PyData.eqvAll (d :: ds) [] = false := by simp only [PyData.eqvAll]
theorem eqvA_map {α : Type} {f : α → PyData} (hf : ∀ x y, PyData.eqv (f x) (f y) = true ↔ x = y) : ∀ l m : List α, PyData.eqvAll (l.map f) (m.map f) = true ↔ l = m
  | [], [] => by rw [List.map_nil, eqvA_nil]; simp
  | [], _ :: _ => by rw [List.map_nil, List.map_cons, eqvA_nc]; simp
  | _ :: _, [] => by rw [List.map_nil, List.map_cons, eqvA_cn]; simp
  | x :: l, y :: m => by
    rw [List.map_cons, List.map_cons, eqvA_cons, Bool.and_eq_true, hf, eqvA_map hf l m, List.cons.injEq]
theorem O1.inj {o p : O1} (h : o.str = p.str) : o = p := by cases o <;> cases p <;> first | rfl | exact absurd h (by decide +kernel)
theorem O2.inj {o p : O2} (h : o.str = p.str) : o = p := by cases o <;> cases p <;> first | rfl | exact absurd h (by decide +kernel)
theorem yn.inj {o p : Bool} (h : yn o = yn p) : o = p := by cases o <;> cases p <;> first | rfl | exact absurd h (by decide +kernel)
theorem O1.nl (o : O1) : o.str ≠ "lamp" := by cases o <;> decide +kernel
theorem Say.eqv : ∀ s t : Say, PyData.eqv s.enc t.enc = true ↔ s = t
  | .lamp n, .lamp m => by rw [Say.enc, Say.enc, eqv_tup, eqvA_cons, eqvA_cons, eqvA_nil, eqv_str, eqv_str]; simp
  | .lamp n, .cst b => by rw [Say.enc, Say.enc, eqv_tup, eqvA_cons, eqvA_cn]; simp
  | .lamp n, .one o s => by rw [Say.enc, Say.enc, eqv_tup, eqvA_cons, eqv_str, decide_eq_false (fun e => O1.nl o e.symm)]; simp
  | .lamp n, .two o s t => by rw [Say.enc, Say.enc, eqv_tup, eqvA_cons, eqvA_cons, eqvA_nc]; simp
  | .cst b, .lamp m => by rw [Say.enc, Say.enc, eqv_tup, eqvA_cons, eqvA_nc]; simp
  | .cst b, .cst c => by
    rw [Say.enc, Say.enc, eqv_tup, eqvA_cons, eqvA_nil, eqv_str, Bool.and_true, decide_eq_true_eq]
    exact ⟨fun h => by rw [yn.inj h], fun h => by cases h; rfl⟩
  | .cst b, .one o s => by rw [Say.enc, Say.enc, eqv_tup, eqvA_cons, eqvA_nc]; simp
  | .cst b, .two o s t => by rw [Say.enc, Say.enc, eqv_tup, eqvA_cons, eqvA_nc]; simp
  | .one o s, .lamp m => by rw [Say.enc, Say.enc, eqv_tup, eqvA_cons, eqv_str, decide_eq_false (O1.nl o)]; simp
  | .one o s, .cst b => by rw [Say.enc, Say.enc, eqv_tup, eqvA_cons, eqvA_cn]; simp
  | .one o s, .one p t => by
    rw [Say.enc, Say.enc, eqv_tup, eqvA_cons, eqvA_cons, eqvA_nil, eqv_str, Bool.and_true, Bool.and_eq_true, decide_eq_true_eq, Say.eqv s t]
    exact ⟨fun h => by rw [O1.inj h.1, h.2], fun h => by cases h; exact ⟨rfl, rfl⟩⟩
  | .one o s, .two p t u => by rw [Say.enc, Say.enc, eqv_tup, eqvA_cons, eqvA_cons, eqvA_nc]; simp
  | .two o s t, .lamp m => by rw [Say.enc, Say.enc, eqv_tup, eqvA_cons, eqvA_cons, eqvA_cn]; simp
  | .two o s t, .cst b => by rw [Say.enc, Say.enc, eqv_tup, eqvA_cons, eqvA_cn]; simp
  | .two o s t, .one p u => by rw [Say.enc, Say.enc, eqv_tup, eqvA_cons, eqvA_cons, eqvA_cn]; simp
  | .two o s t, .two p u v => by
    rw [Say.enc, Say.enc, eqv_tup, eqvA_cons, eqvA_cons, eqvA_cons, eqvA_nil, eqv_str, Bool.and_true, Bool.and_eq_true, Bool.and_eq_true, decide_eq_true_eq, Say.eqv s u, Say.eqv t v]
    exact ⟨fun h => by rw [O2.inj h.1, h.2.1, h.2.2], fun h => by cases h; exact ⟨rfl, rfl, rfl⟩⟩
theorem bool_iff {b : Bool} {p : Prop} [Decidable p] (h : b = true ↔ p) : b = decide p := by
  by_cases q : p
  · rw [decide_eq_true q, h.mpr q]
  · rw [decide_eq_false q]
    cases b with
    | false => rfl
    | true => exact absurd (h.mp rfl) q
theorem any_enc {α : Type} [DecidableEq α] {f : α → PyData} (hf : ∀ x y, PyData.eqv (f x) (f y) = true ↔ x = y) (l : List α) (x : α) : ((l.map f).any fun z => PyData.eqv z (f x)) = decide (x ∈ l) := by
  refine bool_iff ?_
  rw [List.any_eq_true]
  constructor
  · rintro ⟨d, hd, e⟩
    obtain ⟨y, hy, rfl⟩ := List.mem_map.mp hd
    rw [(hf y x).mp e] at hy
    exact hy
  · exact fun h => ⟨f x, List.mem_map.mpr ⟨x, h, rfl⟩, (hf x x).mpr rfl⟩
/-- a setting, a memory -/
def encB (s : List Bool) : PyData := .tuple (s.map PyData.bool)
theorem encB_eqv (s t : List Bool) : PyData.eqv (encB s) (encB t) = true ↔ s = t := by
  rw [encB, encB, eqv_tup]
  exact eqvA_map (fun x y => by rw [eqv_bl, decide_eq_true_eq]) s t
theorem encB_lay (s : List Bool) : PyData.canLay0 (encB s) = true := by rw [encB, lay_tup]; exact lay_map fun x _ => lay_bl
theorem encB_dep (s : List Bool) : (encB s).depth ≤ 1 := by
  rw [encB, dep_tup]
  have := dep_map (f := PyData.bool) (n := 0) (l := s) fun x _ => by rw [dep_bl]; exact Nat.le_refl _
  omega
theorem encB_shaped (s : List Bool) : SeqAt.shaped (encB s) = true := shaped_of (encB_lay s) (Nat.le_trans (encB_dep s) (by decide))
theorem encBs_shaped (ss : List (List Bool)) : SeqAt.shaped (.list (ss.map encB)) = true := by
  refine shaped_of ?_ ?_
  · rw [lay_lst]; exact lay_map fun s _ => encB_lay s
  · rw [dep_lst]
    have := dep_map (f := encB) (n := 1) (l := ss) fun s _ => encB_dep s
    omega
theorem TD.encB_inv {K : PySem.W.Frag} {H : Hp} {v : V} {s : List Bool} (h : TD K H v (encB s)) : ∃ a, v = .ref a ∧ SqT K H a (s.map V.bl) := by
  obtain ⟨a, xs, rfl, hT, hs⟩ := h.tup_inv
  rw [hs.bls_inv] at hT
  exact ⟨a, rfl, hT⟩
theorem td_encB {K : PySem.W.Frag} {H : Hp} {a : Addr} {s : List Bool} (h : SqT K H a (s.map V.bl)) : TD K H (.ref a) (encB s) := .tup h TDs.bls
/-- a book -/
structure Book where
  foe : List Str
  fr : List Str
  proms : List Say
  musts : List Say
  wishes : List (Int × Say)
def encNames (ns : List Str) : PyData := .tuple (ns.map PyData.str)
def encSays (ss : List Say) : PyData := .tuple (ss.map Say.enc)
def encWish (p : Int × Say) : PyData := .tuple [.int p.1, p.2.enc]
def Book.enc (b : Book) : PyData := .tuple [encNames b.foe, encNames b.fr, encSays b.proms, encSays b.musts, .tuple (b.wishes.map encWish)]
def Book.names (b : Book) : List Str := b.foe ++ b.fr
def Book.says (b : Book) : List Say := b.proms ++ b.musts ++ b.wishes.map (·.2)
def Book.pieces (b : Book) : List Say := b.says.foldl (fun ms s => s.gather ms) []
structure Book.Ok (b : Book) : Prop where
  foe1 : 1 ≤ b.foe.length
  foe2 : b.foe.length ≤ 2
  fr1 : 1 ≤ b.fr.length
  fr2 : b.fr.length ≤ 2
  ln : ∀ n ∈ b.names, n ∈ LN
  nd : b.names.Nodup
  p3 : b.proms.length ≤ 3
  m3 : b.musts.length ≤ 3
  w1 : 1 ≤ b.wishes.length
  w5 : b.wishes.length ≤ 5
  ov : ∀ s ∈ b.says, s.ov b.names ∧ s.dep ≤ 8
  price : ∀ p ∈ b.wishes, 1 ≤ p.1 ∧ p.1 ≤ 99
  nofree : ∀ s ∈ b.proms, s.free b.fr = false
  p4 : b.pieces.length ≤ 4
-- GO begin
local macro_rules | `(tactic| walk_at "hx") => `(tactic| first
  | assumption
  | exact upd_same
  | exact SqL.of upd_same
  | exact SqT.of upd_same
  | ((with_reducible refine SqL.of ?hxa); (case hxa => assumption))
  | ((with_reducible refine sqt_new ?hxa ?hxb); (case hxa => assumption); (case hxb => walk_at "hx"))
  | ((with_reducible refine sqt_lst (ys := ?hxy) ?hxa ?hxb); (case hxa => walk_at "hx"); (case hxb => walk_at "hx"))
  | ((with_reducible refine sqt_same (H := ?hxh) ?hxa ?hxb); (case hxa => assumption); (case hxb => walk_at "hx"))
  | ((with_reducible refine sql_new ?hxa ?hxb); (case hxa => assumption); (case hxb => walk_at "hx"))
  | ((with_reducible refine Same.seq (H := ?hxh) ?hxa ?hxb); (case hxa => assumption); (case hxb => walk_at "hx"))
  | ((with_reducible refine get_new ?hxa ?hxb); (case hxa => assumption); (case hxb => walk_at "hx"))
  | ((with_reducible refine td_new ?hxa ?hxb); (case hxa => assumption); (case hxb => walk_at "hx"))
  | ((with_reducible refine td_lst (ys := ?hxy) ?hxa ?hxb); (case hxa => walk_at "hx"); (case hxb => walk_at "hx"))
  | ((with_reducible refine td_same (H := ?hxh) ?hxa ?hxb); (case hxa => assumption); (case hxb => walk_at "hx"))
  | ((with_reducible refine tds_new ?hxa ?hxb); (case hxa => assumption); (case hxb => walk_at "hx"))
  | ((with_reducible refine tds_lst (ys := ?hxy) ?hxa ?hxb); (case hxa => walk_at "hx"); (case hxb => walk_at "hx"))
  | ((with_reducible refine tds_same (H := ?hxh) ?hxa ?hxb); (case hxa => assumption); (case hxb => walk_at "hx"))
  | ((with_reducible refine get_same (H := ?hxh) ?hxa ?hxb); (case hxa => assumption); (case hxb => walk_at "hx")))
local macro_rules | `(tactic| walk_at "go1") => `(tactic| first
  | (with_reducible refine l_seq ?_)
  | (with_reducible refine l_if ?_)
  | (with_reducible refine l_ret ?_)
  | (with_reducible refine l_asg ?_)
  | (with_reducible refine l_gname ?_)
  | (with_reducible refine l_drop ?_)
  | (with_reducible refine l_next ?_)
  | (with_reducible refine l_for ?_)
  | (with_reducible refine l_yes ?_)
  | (with_reducible refine l_inS ?_)
  | (with_reducible refine l_lc ?_)
  | (with_reducible refine l_itT ?_)
  | (with_reducible refine l_itL ?_)
  | (with_reducible refine l_itR ?_)
  | (with_reducible refine l_itS ?_)
  | (with_reducible refine l_itZ ?_)
  | (with_reducible refine l_gcons ?_)
  | (with_reducible refine l_gnil ?_)
  | ((with_reducible refine l_gtup (xs := ?gox) ?goh ?gok ?_); (case goh => walk_at "hx"); (case gok => rfl))
  | ((with_reducible refine l_var (v := ?gov) ?goh ?_); (case goh => rfl))
  | (with_reducible refine l_c ?_)
  | (with_reducible refine l_op ?_)
  | (with_reducible refine l_un ?_)
  | (with_reducible refine l_U ?_)
  | (with_reducible refine l_I0 ?_)
  | (with_reducible refine l_cb ?_)
  | (with_reducible refine l_cons ?_)
  | (with_reducible refine l_nil ?_)
  | (with_reducible refine l_call ?_)
  | (with_reducible refine l_test ?_)
  | (with_reducible refine l_B ?_)
  | (with_reducible refine l_and ?_)
  | (with_reducible refine l_or ?_)
  | (with_reducible refine l_not ?_)
  | (with_reducible refine l_chain ?_)
  | (with_reducible refine l_andV ?_)
  | (with_reducible refine l_orV ?_)
  | (with_reducible refine l_notV ?_)
  | (with_reducible refine l_isN ?_)
  | (with_reducible refine l_notN ?_)
  | ((with_reducible refine l_eq ?goh ?_); (case goh => rfl))
  | ((with_reducible refine l_ne ?goh ?_); (case goh => rfl))
  | (with_reducible refine l_sl ?_)
  | (with_reducible refine l_noPart ?_)
  | (with_reducible refine l_part ?_)
  | (with_reducible refine l_bm ?_)
  | (with_reducible refine l_bmF ?_)
  | (with_reducible refine l_tup ?_)
  | (with_reducible refine l_lst ?_)
  | (with_reducible refine l_kb ?_)
  | (with_reducible refine l_ki ?_)
  | ((with_reducible refine l_ixT (xs := ?gox) (v := ?gov) ?goh ?gok ?_); (case goh => walk_at "hx"); (case gok => rfl))
  | ((with_reducible refine l_ixT0 (x := ?gox) (xs := ?gov) ?goh ?_); (case goh => walk_at "hx"))
  | ((with_reducible refine l_ixL (xs := ?gox) (v := ?gov) ?goh ?gok ?_); (case goh => walk_at "hx"); (case gok => rfl))
  | ((with_reducible refine l_lenT (xs := ?gox) ?goh ?_); (case goh => walk_at "hx"))
  | ((with_reducible refine l_lenL (xs := ?gox) ?goh ?_); (case goh => walk_at "hx"))
  | (with_reducible refine l_int_b ?_)
  | (with_reducible refine l_max2 ?_)
  | ((with_reducible refine l_isiInt (b := true) ?gok ?_); (case gok => decide +kernel))
  | ((with_reducible refine l_isiInt (b := false) ?gok ?_); (case gok => decide +kernel))
  | ((with_reducible refine l_isiBl (b := true) ?gok ?_); (case gok => decide +kernel))
  | ((with_reducible refine l_isiBl (b := false) ?gok ?_); (case gok => decide +kernel))
  | ((with_reducible refine l_isiStr (b := true) ?gok ?_); (case gok => decide +kernel))
  | ((with_reducible refine l_isiStr (b := false) ?gok ?_); (case gok => decide +kernel))
  | ((with_reducible refine l_isiNon (b := true) ?gok ?_); (case gok => decide +kernel))
  | ((with_reducible refine l_isiNon (b := false) ?gok ?_); (case gok => decide +kernel))
  | ((with_reducible refine l_isiTup (xs := ?gox) (b := true) ?goh ?gok ?_); (case goh => walk_at "hx"); (case gok => decide +kernel))
  | ((with_reducible refine l_isiTup (xs := ?gox) (b := false) ?goh ?gok ?_); (case goh => walk_at "hx"); (case gok => decide +kernel))
  | ((with_reducible refine l_isiLst (xs := ?gox) (b := true) ?goh ?gok ?_); (case goh => walk_at "hx"); (case gok => decide +kernel))
  | ((with_reducible refine l_isiLst (xs := ?gox) (b := false) ?goh ?gok ?_); (case goh => walk_at "hx"); (case gok => decide +kernel)))
local macro_rules | `(tactic| walk_at "go") => `(tactic| (repeat (walk_at "go1")))
local macro_rules | `(tactic| walk_at "yes") => `(tactic| (refine l_iT (by first | rfl | decide +kernel) ?_))
local macro_rules | `(tactic| walk_at "no") => `(tactic| (refine l_iF (by first | rfl | decide +kernel) ?_))
local macro_rules | `(tactic| walk_at "ga") => `(tactic| (repeat (first | walk_at "go1" | ((with_reducible refine l_iF ?goh ?_); (case goh => first | rfl | decide +kernel)) | ((with_reducible refine l_iT ?goh ?_); (case goh => first | rfl | decide +kernel)))))
-- GO end
section
variable {P : Program} {w : World} {K : PySem.W.Frag} {mg : Str → Option Value} {base : Heap}
/-! ### a promise that asks what can't be is kept -/
theorem fnOk_none {k : Nat} {f : Addr} {fd : FuncData} {ps : List Str} {sp : Sp} (no : ∀ vs H Q E, ¬ sp vs H Q E) : FnOk P w K mg base CX0 k f fd ps sp :=
  ⟨fun vs H Q E h => absurd h (no vs H Q E), fun A outer s H args us vs Q E _ _ _ _ h => absurd h (no vs H Q E)⟩
theorem inV_strs (n : Str) (ns : List Str) : inV (.str n) (ns.map V.str) = decide (n ∈ ns) := by
  refine bool_iff ?_
  unfold inV
  rw [List.any_eq_true]
  constructor
  · rintro ⟨d, hd, e⟩
    obtain ⟨y, hy, rfl⟩ := List.mem_map.mp hd
    have e2 : y = n := by simpa [eqV] using e
    rw [← e2]
    exact hy
  · exact fun h => ⟨.str n, List.mem_map.mpr ⟨n, h, rfl⟩, by simp [eqV]⟩
theorem flat_strs (ns : List Str) : (ns.map V.str).all flatV = true := by
  rw [List.all_eq_true]
  intro x hx
  obtain ⟨y, _, rfl⟩ := List.mem_map.mp hx
  rfl
def SGL : List Str := ["not", "before", "once", "sofar"]
def DBL : List Str := ["and", "or", "then", "same", "since"]
def PST : List Str := ["before", "once", "sofar", "since"]
def WRD : List Str := ["yes", "no", "not", "and", "or", "then", "same", "before", "once", "sofar", "since", "foe", "friend", "promise", "must", "wish"]
theorem t_SGL (D : Hd K mg) (H : Hp) : SqT K H (He.ga K "SINGLE") (SGL.map V.str) := t_SINGLE D H
theorem t_DBL (D : Hd K mg) (H : Hp) : SqT K H (He.ga K "DOUBLE") (DBL.map V.str) := t_DOUBLE D H
theorem t_PST (D : Hd K mg) (H : Hp) : SqT K H (He.ga K "PAST") (PST.map V.str) := t_PAST D H
theorem t_WRD (D : Hd K mg) (H : Hp) : SqT K H (He.ga K "WORDS") (WRD.map V.str) := t_WORDS D H
theorem l_inTs {H : Hp} {Q : VK} {a : Addr} {ns : List Str} {z : Str} (h : SqT K H a (ns.map V.str)) (q : Q (.bl (decide (z ∈ ns))) H) : rIn K false (.str z) (.ref a) H Q :=
  l_inT h rfl (flat_strs ns) (by rw [if_neg Bool.false_ne_true, inV_strs]; exact q)
theorem l_niTs {H : Hp} {Q : VK} {a : Addr} {ns : List Str} {z : Str} (h : SqT K H a (ns.map V.str)) (q : Q (.bl (!decide (z ∈ ns))) H) : rIn K true (.str z) (.ref a) H Q :=
  l_inT h rfl (flat_strs ns) (by rw [if_pos rfl, inV_strs]; exact q)
/-! ### parts_of -/
def spParts (K : PySem.W.Frag) : Sp := fun vs H Q _ => ∃ (v : V) (s : Say), vs = [v] ∧ TD K H v s.enc ∧
  ∀ r H', Same H H' → TD K H' r (.tuple (s.parts.map Say.enc)) → Q r H'
theorem sc_parts_of : FnScope ["saying"] ["saying"] (defScope s_parts_of) := ⟨rfl, rfl, rfl, by decide +kernel, rfl, by decide +kernel, by decide +kernel⟩
theorem ok_parts_of (D : Hd K mg) : OkG P w K mg base "parts_of" ["saying"] 1 (spParts K) := by
  obtain ⟨fd, F⟩ := F_parts_of D
  refine ⟨g_parts_of D, F.kp, fd, F.ok sc_parts_of (fun vs H Q E h => ?_) (fun cdv A outer sS H vs Q E hr h => ?_), F.bindsN fun _ _ _ _ _ _ us hl => match us, hl with | [_], _ => rfl⟩
  · obtain ⟨v, s, rfl, _⟩ := h
    rfl
  obtain ⟨v, s, rfl, hv, k⟩ := h
  refine ⟨_, (PSs.nox (pss_cons (ps_if (pt_cmpR op_eq (pe_ix (ix_tupK K) (pv 0) pe_int (fun _ _ => rfl)) pe_str (nomark _)) (pss_one (ps_ret (pe_tup pa_nil))) pss_nil)
      (pss_one (ps_ret (pe_slice (sl_tupK K) (pv 0) (po_some pe_int) po_none))))), ?_⟩
  cases s with
  | lamp n =>
    obtain ⟨a, x, y, rfl, hT, h0, h1⟩ := hv.t2
    cases h0.str_inv
    walk_at "go"
    walk_at "yes"
    walk_at "go"
    refine ⟨Nat.zero_le _, fun p hp => k _ _ (same_new hp) (.tup (SqT.of upd_same) .nil)⟩
  | cst b =>
    obtain ⟨a, x, rfl, hT, h0⟩ := hv.t1
    cases h0.str_inv
    walk_at "go"
    refine l_iF (by cases b <;> rfl) ?_
    walk_at "go"
    refine l_slT hT (fun z => ?_) (fun z p hp => k _ _ (same_new hp) (.tup (SqT.of upd_same) .nil))
    exact absurd z (by show ¬ (1 = 0 ∧ _); omega)
  | one o s =>
    obtain ⟨a, x, y, rfl, hT, h0, h1⟩ := hv.t2
    cases h0.str_inv
    walk_at "go"
    refine l_iF (by cases o <;> rfl) ?_
    walk_at "go"
    refine l_slT hT (fun z => ?_) (fun z p hp => k _ _ (same_new hp) (.tup (SqT.of upd_same) (.one (td_new hp h1))))
    exact absurd z (by show ¬ (1 = 0 ∧ _); omega)
  | two o s t =>
    obtain ⟨a, x, y, z, rfl, hT, h0, h1, h2⟩ := hv.t3
    cases h0.str_inv
    walk_at "go"
    refine l_iF (by cases o <;> rfl) ?_
    walk_at "go"
    refine l_slT hT (fun z => ?_) (fun z p hp => k _ _ (same_new hp) (.tup (SqT.of upd_same) (.two (td_new hp h1) (td_new hp h2))))
    exact absurd z (by show ¬ (1 = 0 ∧ _); omega)
/-! ### is_whole, between -/
def spWhole : Sp := fun vs H Q _ => ∃ i : Int, vs = [.int i] ∧ Q (.bl true) H
theorem sc_is_whole : FnScope ["thing"] ["thing"] (defScope s_is_whole) := ⟨rfl, rfl, rfl, by decide +kernel, rfl, by decide +kernel, by decide +kernel⟩
theorem ok_is_whole (D : Hd K mg) : OkG P w K mg base "is_whole" ["thing"] 1 spWhole := by
  obtain ⟨fd, F⟩ := F_is_whole D
  refine ⟨g_is_whole D, F.kp, fd, F.ok sc_is_whole (fun vs H Q E h => ?_) (fun cdv A outer sS H vs Q E hr h => ?_), F.bindsN fun _ _ _ _ _ _ us hl => match us, hl with | [_], _ => rfl⟩
  · obtain ⟨i, rfl, _⟩ := h
    rfl
  obtain ⟨i, rfl, k⟩ := h
  refine ⟨_, (PSs.nox (pss_one (ps_ret (pe_and (pe_callB (cl_isiK K) (by rfl) (g_isinstance D) (by decide +kernel) (pa_cons (pv 0) (pa_cons (pe_bltn (v := .ty "int") (by rfl) (g_int D) (by decide +kernel) rfl) pa_nil))) (pe_one (pe_not (pe_callB (cl_isiK K) (by rfl) (g_isinstance D) (by decide +kernel) (pa_cons (pv 0) (pa_cons (pe_bltn (v := .ty "bool") (by rfl) (g_bool D) (by decide +kernel) rfl) pa_nil))))))))), ?_⟩
  walk_at "go"
  walk_at "yes"
  walk_at "go"
  exact k
def spBetween : Sp := fun vs H Q _ => ∃ i lo hi : Int, vs = [.int i, .int lo, .int hi] ∧ lo ≤ i ∧ i ≤ hi ∧ Q (.bl true) H
theorem sc_between : FnScope ["thing", "low", "most"] ["thing", "low", "most"] (defScope s_between) := ⟨rfl, rfl, rfl, by decide +kernel, rfl, by decide +kernel, by decide +kernel⟩
theorem ok_between (D : Hd K mg) : OkG P w K mg base "between" ["thing", "low", "most"] 2 spBetween := by
  obtain ⟨fd, F⟩ := F_between D
  have G_is_whole := ok_is_whole (P := P) (w := w) (base := base) D
  refine ⟨g_between D, F.kp, fd, F.ok sc_between (fun vs H Q E h => ?_) (fun cdv A outer sS H vs Q E hr h => ?_), F.bindsN fun _ _ _ _ _ _ us hl => match us, hl with | [_, _, _], _ => rfl⟩
  · obtain ⟨i, lo, hi, rfl, _⟩ := h
    rfl
  obtain ⟨i, lo, hi, rfl, h1, h2, k⟩ := h
  refine ⟨_, (PSs.nox (pss_one (ps_ret (pe_and (pe_cl G_is_whole hr (pa_cons (pv 0) pa_nil)) (pe_one (pe_chain op_le op_le (pv 1) (pv 0) (pv 2))))))), ?_⟩
  walk_at "go"
  refine ⟨i, rfl, ?_⟩
  walk_at "go"
  walk_at "yes"
  walk_at "go"
  refine l_iT (decide_eq_true h1) ?_
  walk_at "go"
  rw [decide_eq_true h2]
  exact k
end
section
variable {P : Program} {w : World} {K : PySem.W.Frag} {mg : Str → Option Value} {base : Heap}
/-! ### is_name -/
def letters : Str := "abcdefghijklmnopqrstuvwxyz"
theorem LN_facts : ∀ n ∈ LN, (1 : Int) ≤ (n.length : Nat) ∧ ((n.length : Nat) : Int) ≤ 8 ∧ n.length ≤ sizeLine ∧ n ∉ WRD ∧ n.cps.toList.length ≤ 8 ∧ ∀ c ∈ n.cps.toList, c ∈ letters.cps.toList := by
  intro n hn
  simp only [LN, List.mem_cons, List.not_mem_nil, or_false] at hn
  rcases hn with rfl | rfl | rfl | rfl | rfl | rfl | rfl | rfl <;> decide +kernel
def spName : Sp := fun vs H Q _ => ∃ n : Str, vs = [.str n] ∧ n ∈ LN ∧ ∀ H', Same H H' → Q (.bl true) H'
theorem sc_is_name : FnScope ["thing", "sign"] ["thing"] (defScope s_is_name) := ⟨rfl, rfl, rfl, by decide +kernel, rfl, by decide +kernel, by decide +kernel⟩
theorem ok_is_name (D : Hd K mg) : OkG P w K mg base "is_name" ["thing"] 1 spName := by
  obtain ⟨fd, F⟩ := F_is_name D
  refine ⟨g_is_name D, F.kp, fd, F.ok sc_is_name (fun vs H Q E h => ?_) (fun cdv A outer sS H vs Q E hr h => ?_), F.bindsN fun _ _ _ _ _ _ us hl => match us, hl with | [_], _ => rfl⟩
  · obtain ⟨n, rfl, _⟩ := h
    rfl
  obtain ⟨n, rfl, hn, k⟩ := h
  obtain ⟨t0, gc_LETTERS⟩ := g_LETTERS D
  obtain ⟨h1, h2, h3, h4, h5, h6⟩ := LN_facts n hn
  refine ⟨_, (PSs.nox (pss_cons (ps_if (PW.pt (pw_or (pt_not (pt_val (pe_callB (cl_isiK K) (by rfl) (g_isinstance D) (by decide +kernel) (pa_cons (pv 0) (pa_cons (pe_bltn (v := .ty "str") (by rfl) (g_str D) (by decide +kernel) rfl) pa_nil))))) (pw_or (pt_not (pt_chain op_le op_le pe_int (pe_callB (cl_lenK K) (by rfl) (g_len D) (by decide +kernel) (pa_cons (pv 0) pa_nil)) pe_int)) (pw_or1 (pt_cmpR (op_inK K) (pv 0) (pe_gref (g_WORDS D)) (by rfl)))))) (pss_one (ps_ret pe_bl)) pss_nil)
      (pss_one (ps_ret (pe_callB (cr_allK K rfl) (by rfl) (g_all D) (by decide +kernel) (pa_cons (pe_lc (own := [("sign", 1)]) (g := gName 1) (tt := tYes) (by rfl) sc_is_name.nd (pi_str (pv 0)) (blkOk_by (N := ["thing", "sign"]) (sc := defScope s_is_name) (by decide +kernel)) (fun _ _ _ _ _ => (pg_name (i := 1) sc_is_name.nd rfl (Or.inl rfl))) (fun _ _ _ _ _ => pts_nil) (fun _ _ _ _ _ => (pe_cmpR op_in0 (pv 1) (pe_gstr gc_LETTERS) rfl))) pa_nil)))))), ?_⟩
  walk_at "go"
  walk_at "no"
  walk_at "go"
  refine l_lenS h3 ?_
  walk_at "go"
  refine l_iT (decide_eq_true h1) ?_
  walk_at "go"
  rw [decide_eq_true h2]
  walk_at "no"
  walk_at "go"
  refine l_inTs (t_WRD D H) ?_
  walk_at "go"
  refine l_iF (decide_eq_false h4) ?_
  walk_at "go"
  refine lcS (fun i => (List.replicate i (V.bl true))) rfl (fun Dd i c H' hD hc e hl => ?_) (fun Dd H' hD e hl => ?_)
  · walk_at "go"
    refine ⟨rfl, ?_⟩
    walk_at "go"
    walk_at "yes"
    walk_at "go"
    have hc2 : c ∈ letters.cps.toList := h6 c (List.mem_of_getElem? hc)
    rw [show decide (c ∈ (Str.ofString "abcdefghijklmnopqrstuvwxyz").cps.toList) = true from decide_eq_true hc2]
    have hi : i < 8 := Nat.lt_of_lt_of_le (List.getElem?_eq_some_iff.mp hc).1 h5
    exact lc_put hD e hl (szl (by rw [List.length_replicate]; omega)) (by rw [List.replicate_succ'])
  · walk_at "go"
    have hb : List.replicate n.cps.toList.length (V.bl true) = (List.replicate n.cps.toList.length true).map V.bl := by rw [List.map_replicate]
    refine l_all (bs := List.replicate n.cps.toList.length true) (by rw [← hb]; exact SqL.of hl) ?_
    have ha : (List.replicate n.cps.toList.length true).all id = true := by
      rw [List.all_eq_true]
      intro x hx
      rw [(List.mem_replicate.mp hx).2]
      rfl
    rw [ha]
    exact k H' e
/-! ### is_saying -/
theorem replicate_bl (n : Nat) : List.replicate n (V.bl true) = (List.replicate n true).map V.bl := by rw [List.map_replicate]
theorem all_rep (n : Nat) : (List.replicate n true).all id = true := by
  rw [List.all_eq_true]
  intro x hx
  rw [(List.mem_replicate.mp hx).2]
  rfl
def spIsSaying (K : PySem.W.Frag) (n : Nat) : Sp := fun vs H Q _ => ∃ (a : Addr) (names : List Str) (v : V) (s : Say) (m : Nat), vs = [.ref a, v, .int (m : Nat)] ∧ SqT K H a (names.map V.str) ∧ TD K H v s.enc ∧ s.ov names ∧ s.dep ≤ m ∧ m ≤ n ∧
  ∀ H', Same H H' → Q (.bl true) H'
theorem sc_is_saying : FnScope ["names", "thing", "most", "part"] ["names", "thing", "most"] (defScope s_is_saying) := ⟨rfl, rfl, rfl, by decide +kernel, rfl, by decide +kernel, by decide +kernel⟩
theorem ok_is_saying0 (D : Hd K mg) : OkG P w K mg base "is_saying" ["names", "thing", "most"] 0 (spIsSaying K 0) := by
  obtain ⟨fd, F⟩ := F_is_saying D
  refine ⟨g_is_saying D, F.kp, fd, fnOk_none fun vs H Q E h => ?_, F.bindsN fun _ _ _ _ _ _ us hl => match us, hl with | [_, _, _], _ => rfl⟩
  obtain ⟨a, names, v, s, m, _, _, _, _, h1, h2, _⟩ := h
  have := s.dep_pos
  omega
theorem int_ne0 {m : Nat} (h : 1 ≤ m) : decide (V.int (m : Nat) = V.int 0) = false := decide_eq_false fun e => by
  have e2 : ((m : Nat) : Int) = 0 := by injection e
  omega
theorem ok_is_saying1 (D : Hd K mg) {n : Nat} (G_is_saying : OkG P w K mg base "is_saying" ["names", "thing", "most"] n (spIsSaying K n)) : OkG P w K mg base "is_saying" ["names", "thing", "most"] (n + 1) (spIsSaying K (n + 1)) := by
  obtain ⟨fd, F⟩ := F_is_saying D
  refine ⟨g_is_saying D, F.kp, fd, F.ok sc_is_saying (fun vs H Q E h => ?_) (fun cdv A outer sS H vs Q E hr h => ?_), F.bindsN fun _ _ _ _ _ _ us hl => match us, hl with | [_, _, _], _ => rfl⟩
  · obtain ⟨a, names, v, s, m, rfl, _⟩ := h
    rfl
  obtain ⟨a, names, v, s, m, rfl, ha, hv, ho, hd, hm, k⟩ := h
  have hm1 : 1 ≤ m := Nat.le_trans s.dep_pos hd
  refine ⟨_, (PSs.nox (pss_cons (ps_if (PW.pt (pw_or (pt_cmpR op_eq (pv 2) pe_int (nomark _)) (pw_or (pt_not (pt_val (pe_callB (cl_isiK K) (by rfl) (g_isinstance D) (by decide +kernel) (pa_cons (pv 1) (pa_cons (pe_bltn (v := .ty "tuple") (by rfl) (g_tuple D) (by decide +kernel) rfl) pa_nil))))) (pw_or (pt_cmpR op_eq (pe_callB (cl_lenK K) (by rfl) (g_len D) (by decide +kernel) (pa_cons (pv 1) pa_nil)) pe_int (nomark _)) (pw_or1 (pt_not (pt_val (pe_callB (cl_isiK K) (by rfl) (g_isinstance D) (by decide +kernel) (pa_cons (pe_ix (ix_tupK K) (pv 1) pe_int (fun _ _ => rfl)) (pa_cons (pe_bltn (v := .ty "str") (by rfl) (g_str D) (by decide +kernel) rfl) pa_nil)))))))))) (pss_one (ps_ret pe_bl)) pss_nil)
      (pss_cons (ps_if (pt_cmpR op_eq (pe_ix (ix_tupK K) (pv 1) pe_int (fun _ _ => rfl)) pe_str (nomark _)) (pss_one (ps_ret (pe_and (pe_cmpR op_eq (pe_callB (cl_lenK K) (by rfl) (g_len D) (by decide +kernel) (pa_cons (pv 1) pa_nil)) pe_int (nomark _)) (pe_and (pe_callB (cl_isiK K) (by rfl) (g_isinstance D) (by decide +kernel) (pa_cons (pe_ix (ix_tupK K) (pv 1) pe_int (fun _ _ => rfl)) (pa_cons (pe_bltn (v := .ty "str") (by rfl) (g_str D) (by decide +kernel) rfl) pa_nil))) (pe_one (pe_cmpR (op_inK K) (pe_ix (ix_tupK K) (pv 1) pe_int (fun _ _ => rfl)) (pv 0) (by rfl))))))) pss_nil)
      (pss_cons (ps_if (PW.pt (pw_or (pt_cmpR op_eq (pe_ix (ix_tupK K) (pv 1) pe_int (fun _ _ => rfl)) pe_str (nomark _)) (pw_or1 (pt_cmpR op_eq (pe_ix (ix_tupK K) (pv 1) pe_int (fun _ _ => rfl)) pe_str (nomark _))))) (pss_one (ps_ret (pe_cmpR op_eq (pe_callB (cl_lenK K) (by rfl) (g_len D) (by decide +kernel) (pa_cons (pv 1) pa_nil)) pe_int (nomark _)))) pss_nil)
      (pss_cons (ps_if (PW.pt (pw_and (pt_cmpR (op_niK K) (pe_ix (ix_tupK K) (pv 1) pe_int (fun _ _ => rfl)) (pe_gref (g_SINGLE D)) (by rfl)) (pw_and1 (pt_cmpR (op_niK K) (pe_ix (ix_tupK K) (pv 1) pe_int (fun _ _ => rfl)) (pe_gref (g_DOUBLE D)) (by rfl))))) (pss_one (ps_ret pe_bl)) pss_nil)
      (pss_cons (ps_if (pt_cmpR op_ne (pe_callB (cl_lenK K) (by rfl) (g_len D) (by decide +kernel) (pa_cons (pv 1) pa_nil)) (pe_op op_add pe_int (pe_callTy (cl_int1) (by rfl) (g_int D) (by decide +kernel) (pa_cons (pe_cmpR (op_inK K) (pe_ix (ix_tupK K) (pv 1) pe_int (fun _ _ => rfl)) (pe_gref (g_DOUBLE D)) (by rfl)) pa_nil))) (nomark _)) (pss_one (ps_ret pe_bl)) pss_nil)
      (pss_one (ps_ret (pe_callB (cr_allK K rfl) (by rfl) (g_all D) (by decide +kernel) (pa_cons (pe_lc (own := [("part", 3)]) (g := gName 3) (tt := tYes) (by rfl) sc_is_saying.nd (pi_tupK K (pe_slice (sl_tupK K) (pv 1) (po_some pe_int) po_none)) (blkOk_by (N := ["names", "thing", "most", "part"]) (sc := defScope s_is_saying) (by decide +kernel)) (fun _ _ _ _ _ => (pg_name (i := 3) sc_is_saying.nd rfl (Or.inl rfl))) (fun _ _ _ _ _ => pts_nil) (fun _ _ _ _ _ => (pe_cl G_is_saying hr (pa_cons (pv 0) (pa_cons (pv 3) (pa_cons (pe_op op_sub (pv 2) pe_int) pa_nil)))))) pa_nil)))))))))), ?_⟩
  cases s with
  | lamp z =>
    obtain ⟨b, x, y, rfl, hT, h0, h1⟩ := hv.t2
    cases h0.str_inv
    cases h1.str_inv
    walk_at "go"
    refine l_iF (int_ne0 hm1) ?_
    walk_at "go"
    walk_at "no"
    walk_at "go"
    walk_at "no"
    walk_at "go"
    walk_at "no"
    walk_at "go"
    walk_at "yes"
    walk_at "go"
    walk_at "yes"
    walk_at "go"
    walk_at "yes"
    walk_at "go"
    refine l_inTs ha ?_
    rw [decide_eq_true (show z ∈ names from ho)]
    exact k H (Same.refl H)
  | cst z =>
    obtain ⟨b, x, rfl, hT, h0⟩ := hv.t1
    cases h0.str_inv
    walk_at "go"
    refine l_iF (int_ne0 hm1) ?_
    cases z
    · walk_at "ga"
      exact k H (Same.refl H)
    · walk_at "ga"
      exact k H (Same.refl H)
  | one o s =>
    obtain ⟨b, x, y, rfl, hT, h0, h1⟩ := hv.t2
    cases h0.str_inv
    walk_at "go"
    refine l_iF (int_ne0 hm1) ?_
    walk_at "ga"
    refine l_iF (by cases o <;> decide +kernel) ?_
    walk_at "go"
    refine l_iF (by cases o <;> decide +kernel) ?_
    walk_at "go"
    refine l_iF (by cases o <;> decide +kernel) ?_
    walk_at "go"
    refine l_niTs (t_SGL D H) ?_
    walk_at "go"
    refine l_iF (by cases o <;> decide +kernel) ?_
    walk_at "ga"
    refine l_inTs (t_DBL D H) ?_
    walk_at "go"
    refine l_iF (show (!decide (V.int ((2 : Nat) : Int) = V.int (2 + if decide (o.str ∈ DBL) = true then 1 else 0))) = false from by cases o <;> decide +kernel) ?_
    walk_at "go"
    refine l_slT hT (fun z => absurd z (by show ¬ (1 = 0 ∧ _); omega)) (fun _ p hp => ?_)
    have hT2 : SqT K (upd H p (.tup [y])) p [y] := SqT.of upd_same
    refine lcT hT2 (fun i => List.replicate i (V.bl true)) rfl (fun Dd i x H' hD hx e hl => ?_) (fun Dd H' hD e hl => ?_)
    · have hi : i = 0 := by
        have := (List.getElem?_eq_some_iff.mp hx).1
        simp at this
        exact this
      subst hi
      cases hx
      walk_at "go"
      refine ⟨rfl, ?_⟩
      walk_at "ga"
      have e0 : Same H H' := (same_new hp).trans e
      refine ⟨a, names, y, s, m - 1, ?_, sqt_same e0 ha, td_same e0 h1, ho, ?_, by omega, fun H4 e4 => lc_put hD (e.trans e4) (e4 _ _ hl) (szl (by simp)) (by rw [List.replicate_succ'])⟩
      · rw [show (((m - 1 : Nat) : Int)) = (m : Int) - 1 by omega]
        rfl
      · have : s.dep + 1 ≤ m := hd
        omega
    · walk_at "go"
      refine l_all (bs := List.replicate 1 true) (by rw [← replicate_bl]; exact SqL.of hl) ?_
      rw [all_rep]
      exact k H' ((same_new hp).trans e)
  | two o s t =>
    obtain ⟨b, x, y, z, rfl, hT, h0, h1, h2⟩ := hv.t3
    cases h0.str_inv
    walk_at "go"
    refine l_iF (int_ne0 hm1) ?_
    walk_at "ga"
    refine l_iF (by cases o <;> decide +kernel) ?_
    walk_at "go"
    refine l_iF (by cases o <;> decide +kernel) ?_
    walk_at "go"
    refine l_iF (by cases o <;> decide +kernel) ?_
    walk_at "go"
    refine l_niTs (t_SGL D H) ?_
    walk_at "go"
    refine l_iT (by cases o <;> decide +kernel) ?_
    walk_at "go"
    refine l_niTs (t_DBL D H) ?_
    walk_at "go"
    refine l_iF (by cases o <;> decide +kernel) ?_
    walk_at "ga"
    refine l_inTs (t_DBL D H) ?_
    walk_at "go"
    refine l_iF (show (!decide (V.int ((3 : Nat) : Int) = V.int (2 + if decide (o.str ∈ DBL) = true then 1 else 0))) = false from by cases o <;> decide +kernel) ?_
    walk_at "go"
    refine l_slT hT (fun z => absurd z (by show ¬ (1 = 0 ∧ _); omega)) (fun _ p hp => ?_)
    have hT2 : SqT K (upd H p (.tup [y, z])) p [y, z] := SqT.of upd_same
    refine lcT hT2 (fun i => List.replicate i (V.bl true)) rfl (fun Dd i x H' hD hx e hl => ?_) (fun Dd H' hD e hl => ?_)
    · walk_at "go"
      refine ⟨rfl, ?_⟩
      walk_at "ga"
      have e0 : Same H H' := (same_new hp).trans e
      obtain ⟨q, hq, hqo, hqd⟩ : ∃ q : Say, TD K H x q.enc ∧ q.ov names ∧ q.dep ≤ m - 1 := by
        have hd' : max s.dep t.dep + 1 ≤ m := hd
        match i, hx with
        | 0, hx => cases hx; exact ⟨s, h1, ho.1, by omega⟩
        | 1, hx => cases hx; exact ⟨t, h2, ho.2, by omega⟩
      have hi : i < 2 := (List.getElem?_eq_some_iff.mp hx).1
      refine ⟨a, names, x, q, m - 1, ?_, sqt_same e0 ha, td_same e0 hq, hqo, hqd, by omega, fun H4 e4 => lc_put hD (e.trans e4) (e4 _ _ hl) (szl (by rw [List.length_replicate]; omega)) (by rw [List.replicate_succ'])⟩
      rw [show (((m - 1 : Nat) : Int)) = (m : Int) - 1 by omega]
      rfl
    · walk_at "go"
      refine l_all (bs := List.replicate 2 true) (by rw [← replicate_bl]; exact SqL.of hl) ?_
      rw [all_rep]
      exact k H' ((same_new hp).trans e)
theorem ok_is_saying (D : Hd K mg) : ∀ n, OkG P w K mg base "is_saying" ["names", "thing", "most"] n (spIsSaying K n)
  | 0 => ok_is_saying0 D
  | n + 1 => ok_is_saying1 D (ok_is_saying D n)
end
section
variable {P : Program} {w : World} {K : PySem.W.Frag} {mg : Str → Option Value} {base : Heap}
theorem Say.at0 {H : Hp} {v : V} {s : Say} (h : TD K H v s.enc) : ∃ a xs, v = .ref a ∧ SqT K H a (.str s.head :: xs) := by
  cases s with
  | lamp n => obtain ⟨a, x, y, rfl, hT, h0, h1⟩ := h.t2; cases h0.str_inv; exact ⟨a, _, rfl, hT⟩
  | cst b => obtain ⟨a, x, rfl, hT, h0⟩ := h.t1; cases h0.str_inv; exact ⟨a, _, rfl, hT⟩
  | one o s => obtain ⟨a, x, y, rfl, hT, h0, h1⟩ := h.t2; cases h0.str_inv; exact ⟨a, _, rfl, hT⟩
  | two o s t => obtain ⟨a, x, y, z, rfl, hT, h0, h1, h2⟩ := h.t3; cases h0.str_inv; exact ⟨a, _, rfl, hT⟩
theorem O1.pst (o : O1) : decide (o.str ∈ PST) = (Say.one o (.cst true)).past := by cases o <;> decide +kernel
theorem O2.pst (o : O2) : decide (o.str ∈ PST) = (Say.two o (.cst true) (.cst true)).past := by cases o <;> decide +kernel
theorem yn.pst (b : Bool) : decide (yn b ∈ PST) = false := by cases b <;> decide +kernel
theorem Say.past_head (s : Say) : decide (s.head ∈ PST) = s.past := by
  cases s with
  | lamp n => exact (by decide +kernel : decide (Str.ofString "lamp" ∈ PST) = false)
  | cst b => exact yn.pst b
  | one o s => exact (O1.pst o).trans (by cases o <;> rfl)
  | two o s t => exact (O2.pst o).trans (by cases o <;> rfl)
/-! ### gathered -/
def spGath (K : PySem.W.Frag) (n : Nat) : Sp := fun vs H Q _ => ∃ (v : V) (s : Say) (l : Addr) (ws : List V) (ms : List Say), vs = [v, .ref l] ∧ TD K H v s.enc ∧ H l = some (.lst ws) ∧ TDs K H ws (ms.map Say.enc) ∧
  s.ov LN ∧ s.dep ≤ n ∧ n ≤ 8 ∧ (∀ p ∈ ms, p.ov LN ∧ p.dep ≤ 60) ∧ ms.length + s.sz ≤ 100000 ∧
  ∀ H' ws', SameBut l H H' → H' l = some (.lst ws') → TDs K H' ws' ((s.gather ms).map Say.enc) → Q .non H'
theorem sc_gathered : FnScope ["saying", "made", "part"] ["saying", "made"] (defScope s_gathered) := ⟨rfl, rfl, rfl, by decide +kernel, rfl, by decide +kernel, by decide +kernel⟩
theorem ok_gathered0 (D : Hd K mg) : OkG P w K mg base "gathered" ["saying", "made"] 1 (spGath K 0) := by
  obtain ⟨fd, F⟩ := F_gathered D
  refine ⟨g_gathered D, F.kp, fd, fnOk_none fun vs H Q E h => ?_, F.bindsN fun _ _ _ _ _ _ us hl => match us, hl with | [_, _], _ => rfl⟩
  obtain ⟨v, s, l, ws, ms, _, _, _, _, _, h1, _⟩ := h
  have := s.dep_pos
  omega
theorem ok_gathered1 (D : Hd K mg) {n : Nat} (G_gathered : OkG P w K mg base "gathered" ["saying", "made"] (n + 1) (spGath K n)) : OkG P w K mg base "gathered" ["saying", "made"] (n + 2) (spGath K (n + 1)) := by
  have G_parts_of := ok_parts_of (P := P) (w := w) (base := base) D
  obtain ⟨fd, F⟩ := F_gathered D
  refine ⟨g_gathered D, F.kp, fd, F.ok sc_gathered (fun vs H Q E h => ?_) (fun cdv A outer sS H vs Q E hr h => ?_), F.bindsN fun _ _ _ _ _ _ us hl => match us, hl with | [_, _], _ => rfl⟩
  · obtain ⟨v, s, l, ws, ms, rfl, _⟩ := h
    rfl
  obtain ⟨v, s, l, ws, ms, rfl, hv, hl, hw, ho, hd, hn, hm, hz, k⟩ := h
  refine ⟨_, (PSs.nox (C8.pss_cut (ps_if (PW.pt (pw_and (pt_cmpR (op_inK K) (pe_ix (ix_tupK K) (pv 0) pe_int (fun _ _ => rfl)) (pe_gref (g_PAST D)) (by rfl)) (pw_and1 (pt_cmpR (op_niDK K (hu65 hr)) (pv 0) (pv 1) (by rfl))))) (pss_one (ps_expr (pe_bmK K PySem.F.plainAttrs_list PySem.F.slot_list_append PySem.F.type_list_append mt_append (pv 1) (pa_cons (pv 0) pa_nil)))) pss_nil)
      (pss_one (ps_for PassesOwn.never rfl (pi_tupK K (pe_cl G_parts_of hr (pa_cons (pv 0) pa_nil))) (pg_name (i := 2) sc_gathered.nd rfl (Or.inl rfl)) (pss_one (ps_expr (pe_cl G_gathered hr (pa_cons (pv 2) (pa_cons (pv 1) pa_nil))))))))), ?_⟩
  obtain ⟨a, xs, rfl, hT⟩ := Say.at0 hv
  have hwl : ws.length = ms.length := by rw [hw.length, List.length_map]
  refine ⟨fun σ' H' => σ' = [some (.ref a), some (.ref l), none] ∧ SameBut l H H' ∧ ∃ ws', H' l = some (.lst ws') ∧ TDs K H' ws' ((addS ms s).map Say.enc), ?_, ?_⟩
  · walk_at "go"
    refine l_inTs (t_PST D H) ?_
    walk_at "go"
    rw [Say.past_head]
    refine l_i2 (fun hp => ?_) (fun hp => ?_)
    · walk_at "go"
      refine ⟨s.enc, ms.map Say.enc, hv.dp, dpl (SqL.of hl) hw, Say.shaped ho (by omega), Say.shapeds hm, ?_⟩
      walk_at "go"
      rw [any_enc Say.eqv]
      refine l_i2 (fun hq => ?_) (fun hq => ?_)
      · have hq2 : s ∉ ms := of_decide_eq_false (by simpa using hq)
        walk_at "go"
        refine ⟨tyv_list (SqL.of hl), ?_⟩
        walk_at "go"
        refine l_app hl (szl (by omega)) ?_
        refine ⟨rfl, SameBut.upd, _, upd_same, ?_⟩
        rw [addS, if_pos ⟨hp, hq2⟩, List.map_append]
        exact (tds_lst hl hw).append (.one (td_lst hl hv))
      · have hq2 : s ∈ ms := of_decide_eq_true (by simpa using hq)
        walk_at "go"
        refine ⟨rfl, SameBut.refl l H, ws, hl, ?_⟩
        rw [addS, if_neg fun z => z.2 hq2]
        exact hw
    · walk_at "go"
      walk_at "no"
      walk_at "go"
      refine ⟨rfl, SameBut.refl l H, ws, hl, ?_⟩
      rw [addS, if_neg fun z => by rw [hp] at z; exact Bool.false_ne_true z.1]
      exact hw
  · rintro σ' H1 ⟨rfl, e1, ws1, hl1, hw1⟩
    walk_at "go"
    have hv1 : TD K H1 (.ref a) s.enc := hv.mono (e1.tup hl)
    refine ⟨_, s, rfl, hv1, fun r H2 e2 hr2 => ?_⟩
    obtain ⟨b, ys, rfl, hT2, hys⟩ := hr2.tup_inv
    have hyl : ys.length = s.parts.length := by rw [hys.length, List.length_map]
    refine forT hT2 (fun i σ' H' => ∃ z, σ' = [some (.ref a), some (.ref l), z] ∧ SameBut l H2 H' ∧ ∃ ws', H' l = some (.lst ws') ∧ TDs K H' ws' (((s.parts.take i).foldl (fun m p => p.gather m) (addS ms s)).map Say.enc))
      ⟨_, rfl, SameBut.refl l H2, ws1, e2 _ _ hl1, tds_same e2 hw1⟩ (fun i σ' H' _ h => ?_) (fun i x σ' H' hx h => ?_) (fun σ' H' h => ?_)
    · obtain ⟨z, _, e3, _⟩ := h
      exact (e3.tup (e2 _ _ hl1)) _ _ hT2
    · obtain ⟨z, rfl, e3, ws3, hl3, hw3⟩ := h
      obtain ⟨d, hd1, hx2⟩ := hys.at hx
      rw [List.getElem?_map] at hd1
      obtain ⟨p, hp, rfl⟩ := Option.map_eq_some_iff.mp hd1
      have hpm : p ∈ s.parts := List.mem_of_getElem? hp
      have hx3 := hx2.mono (e3.tup (e2 _ _ hl1))
      have hall : ∀ q ∈ (s.parts.take i).foldl (fun m p => p.gather m) (addS ms s), q.ov LN ∧ q.dep ≤ 60 := by
        have key : ∀ (l : List Say), (∀ q ∈ l, q.ov LN ∧ q.dep ≤ 60) → ∀ (m : List Say), (∀ q ∈ m, q.ov LN ∧ q.dep ≤ 60) → ∀ q ∈ l.foldl (fun m p => p.gather m) m, q.ov LN ∧ q.dep ≤ 60 := by
          intro l
          induction l with
          | nil => intro _ m hm; exact hm
          | cons y l ih =>
            intro hl m hm
            refine ih (fun q hq => hl q (List.mem_cons_of_mem _ hq)) _ ?_
            exact gather_all (p := fun q => q.ov LN ∧ q.dep ≤ 60) (fun s hs q hq => ⟨Say.ov_parts hs.1 hq, by have := Say.dep_parts hq; omega⟩) y m hm (hl y (by simp))
        refine key _ (fun q hq => ?_) _ (addS_all hm ⟨ho, by omega⟩)
        have hq2 := List.mem_of_mem_take hq
        exact ⟨Say.ov_parts ho hq2, by have := Say.dep_parts hq2; omega⟩
      have hlen : ((s.parts.take i).foldl (fun m p => p.gather m) (addS ms s)).length + p.sz ≤ 100000 := by
        have h0 := addS_len ms s
        cases s with
        | lamp n => cases hpm
        | cst b => cases hpm
        | one o s =>
          match i, hp with
          | 0, hp =>
            have ep : s = p := Option.some.inj hp
            rw [← ep]
            have : (Say.one o s).sz = s.sz + 1 := rfl
            show (addS ms (Say.one o s)).length + s.sz ≤ 100000
            omega
        | two o s t =>
          have e : (Say.two o s t).sz = s.sz + t.sz + 1 := rfl
          match i, hp with
          | 0, hp =>
            have ep : s = p := Option.some.inj hp
            rw [← ep]
            show (addS ms (Say.two o s t)).length + s.sz ≤ 100000
            omega
          | 1, hp =>
            have ep : t = p := Option.some.inj hp
            rw [← ep]
            show (s.gather (addS ms (Say.two o s t))).length + t.sz ≤ 100000
            have := gather_len s (addS ms (Say.two o s t))
            omega
      walk_at "go"
      refine ⟨x, p, l, ws3, _, rfl, hx3, hl3, hw3, Say.ov_parts ho hpm, by have := Say.dep_parts hpm; omega, by omega, hall, hlen, fun H4 ws4 e4 hl4 hw4 => ?_⟩
      refine ⟨_, rfl, e3.trans e4, ws4, hl4, ?_⟩
      rw [take_get hp, List.foldl_append]
      exact hw4
    · obtain ⟨z, rfl, e3, ws3, hl3, hw3⟩ := h
      refine k H' ws3 ((e1.trans (SameBut.of_same e2)).trans e3) hl3 ?_
      rw [gather_fold]
      rw [hyl, List.take_length] at hw3
      exact hw3
theorem ok_gathered (D : Hd K mg) : ∀ n, OkG P w K mg base "gathered" ["saying", "made"] (n + 1) (spGath K n)
  | 0 => ok_gathered0 D
  | n + 1 => ok_gathered1 D (ok_gathered D n)
/-! ### are_names -/
def spNames (K : PySem.W.Frag) : Sp := fun vs H Q _ => ∃ (v : V) (ns : List Str), vs = [v] ∧ TD K H v (encNames ns) ∧ 1 ≤ ns.length ∧ ns.length ≤ 2 ∧ (∀ n ∈ ns, n ∈ LN) ∧ ∀ H', Same H H' → Q (.bl true) H'
theorem sc_are_names : FnScope ["thing", "name"] ["thing"] (defScope s_are_names) := ⟨rfl, rfl, rfl, by decide +kernel, rfl, by decide +kernel, by decide +kernel⟩
theorem ok_are_names (D : Hd K mg) : OkG P w K mg base "are_names" ["thing"] 2 (spNames K) := by
  have G_is_name := ok_is_name (P := P) (w := w) (base := base) D
  obtain ⟨fd, F⟩ := F_are_names D
  refine ⟨g_are_names D, F.kp, fd, F.ok sc_are_names (fun vs H Q E h => ?_) (fun cdv A outer sS H vs Q E hr h => ?_), F.bindsN fun _ _ _ _ _ _ us hl => match us, hl with | [_], _ => rfl⟩
  · obtain ⟨v, ns, rfl, _⟩ := h
    rfl
  obtain ⟨v, ns, rfl, hv, h1, h2, hL, k⟩ := h
  obtain ⟨a, xs, rfl, hT, hs⟩ := hv.tup_inv
  cases hs.strs_inv
  refine ⟨_, (PSs.nox (pss_one (ps_ret (pe_and (pe_callB (cl_isiK K) (by rfl) (g_isinstance D) (by decide +kernel) (pa_cons (pv 0) (pa_cons (pe_bltn (v := .ty "tuple") (by rfl) (g_tuple D) (by decide +kernel) rfl) pa_nil))) (pe_and (pe_chain op_le op_le pe_int (pe_callB (cl_lenK K) (by rfl) (g_len D) (by decide +kernel) (pa_cons (pv 0) pa_nil)) pe_int) (pe_one (pe_callB (cr_allK K rfl) (by rfl) (g_all D) (by decide +kernel) (pa_cons (pe_lc (own := [("name", 1)]) (g := gName 1) (tt := tYes) (by rfl) sc_are_names.nd (pi_tupK K (pv 0)) (blkOk_by (N := ["thing", "name"]) (sc := defScope s_are_names) (by decide +kernel)) (fun _ _ _ _ _ => (pg_name (i := 1) sc_are_names.nd rfl (Or.inl rfl))) (fun _ _ _ _ _ => pts_nil) (fun _ _ _ _ _ => (pe_cl G_is_name hr (pa_cons (pv 1) pa_nil)))) pa_nil)))))))), ?_⟩
  walk_at "ga"
  rw [List.length_map]
  refine l_iT (decide_eq_true (by omega)) ?_
  walk_at "go"
  refine l_iT (decide_eq_true (by omega)) ?_
  walk_at "go"
  refine lcT hT (fun i => List.replicate i (V.bl true)) rfl (fun Dd i x H' hD hx e hl => ?_) (fun Dd H' hD e hl => ?_)
  · walk_at "go"
    refine ⟨rfl, ?_⟩
    walk_at "ga"
    rw [List.getElem?_map] at hx
    obtain ⟨n, hn, rfl⟩ := Option.map_eq_some_iff.mp hx
    have hi := (List.getElem?_eq_some_iff.mp hn).1
    exact ⟨n, rfl, hL n (List.mem_of_getElem? hn), fun H4 e4 => lc_put hD (e.trans e4) (e4 _ _ hl) (szl (by rw [List.length_replicate]; omega)) (by rw [List.replicate_succ'])⟩
  · walk_at "go"
    refine l_all (bs := List.replicate _ true) (by rw [← replicate_bl]; exact SqL.of hl) ?_
    rw [all_rep]
    exact k H' e
end
section
variable {P : Program} {w : World} {K : PySem.W.Frag} {mg : Str → Option Value} {base : Heap}
theorem dec_str_ne {a b : Str} (h : a ≠ b) : decide (V.str a = V.str b) = false := decide_eq_false fun e => h (by injection e)
theorem dec_str_eq {a b : Str} (h : decide (V.str a = V.str b) = true) : a = b := by have := of_decide_eq_true h; injection this
theorem dec_str_nef {a b : Str} (h : decide (V.str a = V.str b) = false) : a ≠ b := fun e => by have := of_decide_eq_false h; exact this (by rw [e])
theorem O2.nb (o : O2) : o.str ≠ "before" := by cases o <;> decide +kernel
theorem O2.nl (o : O2) : o.str ≠ "lamp" := by cases o <;> decide +kernel
theorem yn.nb (o : Bool) : yn o ≠ "before" := by cases o <;> decide +kernel
theorem yn.nl (o : Bool) : yn o ≠ "lamp" := by cases o <;> decide +kernel
theorem Say.free_parts {names : List Str} {s : Say} (h1 : s.head ≠ "lamp") (h2 : s.head ≠ "before") : s.free names = s.parts.any fun p => p.free names := by
  cases s with
  | lamp n => exact absurd rfl h1
  | cst b => rfl
  | one o s => cases o <;> first | exact absurd rfl h2 | (show s.free names = (s.free names || false); rw [Bool.or_false])
  | two o s t => show (s.free names || t.free names) = (s.free names || (t.free names || false)); rw [Bool.or_false]
theorem Say.free_bf {names : List Str} {s : Say} (h2 : s.head = "before") : s.free names = false := by
  cases s with
  | lamp n => exact absurd (show Str.ofString "lamp" = "before" from h2) (by decide +kernel)
  | cst b => exact absurd h2 (yn.nb b)
  | one o s =>
    have q : ∀ o : O1, o.str = "before" → o = .bf := by intro o; cases o <;> first | (intro _; rfl) | (intro h; exact absurd h (by decide +kernel))
    rw [q o h2]
    rfl
  | two o s t => exact absurd h2 (O2.nb o)
def spFree (K : PySem.W.Frag) (n : Nat) : Sp := fun vs H Q _ => ∃ (v : V) (s : Say) (a : Addr) (names : List Str), vs = [v, .ref a] ∧ TD K H v s.enc ∧ SqT K H a (names.map V.str) ∧ s.dep ≤ n ∧
  ∀ H', Same H H' → Q (.bl (s.free names)) H'
theorem sc_stands_free : FnScope ["saying", "names", "part"] ["saying", "names"] (defScope s_stands_free) := ⟨rfl, rfl, rfl, by decide +kernel, rfl, by decide +kernel, by decide +kernel⟩
theorem ok_stands_free0 (D : Hd K mg) : OkG P w K mg base "stands_free" ["saying", "names"] 1 (spFree K 0) := by
  obtain ⟨fd, F⟩ := F_stands_free D
  refine ⟨g_stands_free D, F.kp, fd, fnOk_none fun vs H Q E h => ?_, F.bindsN fun _ _ _ _ _ _ us hl => match us, hl with | [_, _], _ => rfl⟩
  obtain ⟨v, s, a, names, _, _, _, h1, _⟩ := h
  have := s.dep_pos
  omega
theorem map_any {α : Type} (l : List α) (f : α → Bool) : (l.map f).any id = l.any f := by
  induction l with
  | nil => rfl
  | cons x l ih => rw [List.map_cons, List.any_cons, List.any_cons, ih]; rfl
theorem map_all {α : Type} (l : List α) (f : α → Bool) : (l.map f).all id = l.all f := by
  induction l with
  | nil => rfl
  | cons x l ih => rw [List.map_cons, List.all_cons, List.all_cons, ih]; rfl
theorem ok_stands_free1 (D : Hd K mg) {n : Nat} (G_stands_free : OkG P w K mg base "stands_free" ["saying", "names"] (n + 1) (spFree K n)) : OkG P w K mg base "stands_free" ["saying", "names"] (n + 2) (spFree K (n + 1)) := by
  have G_parts_of := ok_parts_of (P := P) (w := w) (base := base) D
  obtain ⟨fd, F⟩ := F_stands_free D
  refine ⟨g_stands_free D, F.kp, fd, F.ok sc_stands_free (fun vs H Q E h => ?_) (fun cdv A outer sS H vs Q E hr h => ?_), F.bindsN fun _ _ _ _ _ _ us hl => match us, hl with | [_, _], _ => rfl⟩
  · obtain ⟨v, s, a, names, rfl, _⟩ := h
    rfl
  obtain ⟨v, s, b, names, rfl, hv, hb, hd, k⟩ := h
  refine ⟨_, (PSs.nox (pss_cons (ps_if (pt_cmpR op_eq (pe_ix (ix_tupK K) (pv 0) pe_int (fun _ _ => rfl)) pe_str (nomark _)) (pss_one (ps_ret (pe_cmpR (op_inK K) (pe_ix (ix_tupK K) (pv 0) pe_int (fun _ _ => rfl)) (pv 1) (by rfl)))) pss_nil)
      (pss_cons (ps_if (pt_cmpR op_eq (pe_ix (ix_tupK K) (pv 0) pe_int (fun _ _ => rfl)) pe_str (nomark _)) (pss_one (ps_ret pe_bl)) pss_nil)
      (pss_one (ps_ret (pe_callB (cr_anyK K rfl) (by rfl) (g_any D) (by decide +kernel) (pa_cons (pe_lc (own := [("part", 2)]) (g := gName 2) (tt := tYes) (by rfl) sc_stands_free.nd (pi_tupK K (pe_cl G_parts_of hr (pa_cons (pv 0) pa_nil))) (blkOk_by (N := ["saying", "names", "part"]) (sc := defScope s_stands_free) (by decide +kernel)) (fun _ _ _ _ _ => (pg_name (i := 2) sc_stands_free.nd rfl (Or.inl rfl))) (fun _ _ _ _ _ => pts_nil) (fun _ _ _ _ _ => (pe_cl G_stands_free hr (pa_cons (pv 2) (pa_cons (pv 1) pa_nil))))) pa_nil))))))), ?_⟩
  by_cases hl : s.head = "lamp"
  · cases s with
    | lamp n =>
      obtain ⟨a, x, y, rfl, hT, h0, h1⟩ := hv.t2
      cases h0.str_inv
      cases h1.str_inv
      walk_at "ga"
      refine l_inTs hb ?_
      exact k H (Same.refl H)
    | cst b => exact absurd hl (yn.nl b)
    | one o s => exact absurd hl (O1.nl o)
    | two o s t => exact absurd hl (O2.nl o)
  · obtain ⟨a, xs, rfl, hT⟩ := Say.at0 hv
    walk_at "go"
    refine l_iF (dec_str_ne hl) ?_
    walk_at "go"
    refine l_i2 (fun h => ?_) (fun h => ?_)
    · walk_at "go"
      have := k H (Same.refl H)
      rw [Say.free_bf (dec_str_eq h)] at this
      exact this
    · walk_at "go"
      refine ⟨_, s, rfl, hv, fun r H2 e2 hr2 => ?_⟩
      obtain ⟨c, ys, rfl, hT2, hys⟩ := hr2.tup_inv
      refine lcT hT2 (fun i => (s.parts.take i).map fun p => V.bl (p.free names)) rfl (fun Dd i x H' hD hx e hl2 => ?_) (fun Dd H' hD e hl2 => ?_)
      · walk_at "go"
        refine ⟨rfl, ?_⟩
        walk_at "ga"
        obtain ⟨d, hd1, hx2⟩ := hys.at hx
        rw [List.getElem?_map] at hd1
        obtain ⟨p, hp, rfl⟩ := Option.map_eq_some_iff.mp hd1
        have hpm : p ∈ s.parts := List.mem_of_getElem? hp
        refine ⟨x, p, b, names, rfl, td_same e hx2, sqt_same (e2.trans e) hb, by have := Say.dep_parts hpm; omega, fun H4 e4 => lc_put hD (e.trans e4) (e4 _ _ hl2) (szl ?_) ?_⟩
        · rw [List.length_map, List.length_take]
          have : s.parts.length ≤ 2 := by cases s <;> simp [Say.parts]
          omega
        · rw [take_get hp, List.map_append]
          rfl
      · walk_at "go"
        have hyl : ys.length = s.parts.length := by rw [hys.length, List.length_map]
        rw [hyl, List.take_length] at hl2
        refine l_any (bs := s.parts.map fun p => p.free names) (by rw [List.map_map]; exact SqL.of hl2) ?_
        rw [map_any, ← Say.free_parts hl (dec_str_nef h)]
        exact k H' (e2.trans e)
theorem ok_stands_free (D : Hd K mg) : ∀ n, OkG P w K mg base "stands_free" ["saying", "names"] (n + 1) (spFree K n)
  | 0 => ok_stands_free0 D
  | n + 1 => ok_stands_free1 D (ok_stands_free D n)
/-! ### are_sayings, is_wish -/
def spAreS (K : PySem.W.Frag) : Sp := fun vs H Q _ => ∃ (v : V) (ss : List Say) (a : Addr) (names : List Str) (m : Nat), vs = [v, .ref a, .int (m : Nat)] ∧ TD K H v (encSays ss) ∧ SqT K H a (names.map V.str) ∧ ss.length ≤ m ∧ m ≤ 100 ∧ (∀ s ∈ ss, s.ov names ∧ s.dep ≤ 8) ∧
  ∀ H', Same H H' → Q (.bl true) H'
theorem sc_are_sayings : FnScope ["thing", "names", "most", "saying"] ["thing", "names", "most"] (defScope s_are_sayings) := ⟨rfl, rfl, rfl, by decide +kernel, rfl, by decide +kernel, by decide +kernel⟩
theorem ok_are_sayings (D : Hd K mg) : OkG P w K mg base "are_sayings" ["thing", "names", "most"] 9 (spAreS K) := by
  have G_is_saying := ok_is_saying (P := P) (w := w) (base := base) D 8
  obtain ⟨t0, gc_DEPTH⟩ := g_DEPTH D
  obtain ⟨fd, F⟩ := F_are_sayings D
  refine ⟨g_are_sayings D, F.kp, fd, F.ok sc_are_sayings (fun vs H Q E h => ?_) (fun cdv A outer sS H vs Q E hr h => ?_), F.bindsN fun _ _ _ _ _ _ us hl => match us, hl with | [_, _, _], _ => rfl⟩
  · obtain ⟨v, ss, a, names, m, rfl, _⟩ := h
    rfl
  obtain ⟨v, ss, b, names, m, rfl, hv, hb, hl, hm, hss, k⟩ := h
  obtain ⟨a, xs, rfl, hT, hs⟩ := hv.tup_inv
  have hxl : xs.length = ss.length := by rw [hs.length, List.length_map]
  refine ⟨_, (PSs.nox (pss_cons (ps_if (PW.pt (pw_or (pt_not (pt_val (pe_callB (cl_isiK K) (by rfl) (g_isinstance D) (by decide +kernel) (pa_cons (pv 0) (pa_cons (pe_bltn (v := .ty "tuple") (by rfl) (g_tuple D) (by decide +kernel) rfl) pa_nil))))) (pw_or1 (pt_cmpR op_gt (pe_callB (cl_lenK K) (by rfl) (g_len D) (by decide +kernel) (pa_cons (pv 0) pa_nil)) (pv 2) (nomark _))))) (pss_one (ps_ret pe_bl)) pss_nil)
      (pss_one (ps_ret (pe_callB (cr_allK K rfl) (by rfl) (g_all D) (by decide +kernel) (pa_cons (pe_lc (own := [("saying", 3)]) (g := gName 3) (tt := tYes) (by rfl) sc_are_sayings.nd (pi_tupK K (pv 0)) (blkOk_by (N := ["thing", "names", "most", "saying"]) (sc := defScope s_are_sayings) (by decide +kernel)) (fun _ _ _ _ _ => (pg_name (i := 3) sc_are_sayings.nd rfl (Or.inl rfl))) (fun _ _ _ _ _ => pts_nil) (fun _ _ _ _ _ => (pe_cl G_is_saying hr (pa_cons (pv 1) (pa_cons (pv 3) (pa_cons (pe_gint gc_DEPTH) pa_nil)))))) pa_nil)))))), ?_⟩
  walk_at "ga"
  refine l_iF (decide_eq_false (by omega)) ?_
  walk_at "go"
  refine lcT hT (fun i => List.replicate i (V.bl true)) rfl (fun Dd i x H' hD hx e hl => ?_) (fun Dd H' hD e hl => ?_)
  · walk_at "go"
    refine ⟨rfl, ?_⟩
    walk_at "ga"
    obtain ⟨d, hd1, hx2⟩ := hs.at hx
    rw [List.getElem?_map] at hd1
    obtain ⟨p, hp, rfl⟩ := Option.map_eq_some_iff.mp hd1
    have hpm : p ∈ ss := List.mem_of_getElem? hp
    have hi := (List.getElem?_eq_some_iff.mp hp).1
    exact ⟨b, names, x, p, 8, rfl, sqt_same e hb, td_same e hx2, (hss p hpm).1, (hss p hpm).2, Nat.le_refl _, fun H4 e4 => lc_put hD (e.trans e4) (e4 _ _ hl) (szl (by rw [List.length_replicate]; omega)) (by rw [List.replicate_succ'])⟩
  · walk_at "go"
    refine l_all (bs := List.replicate _ true) (by rw [← replicate_bl]; exact SqL.of hl) ?_
    rw [all_rep]
    exact k H' e
def spWish (K : PySem.W.Frag) : Sp := fun vs H Q _ => ∃ (v : V) (p : Int × Say) (a : Addr) (names : List Str), vs = [v, .ref a] ∧ TD K H v (encWish p) ∧ SqT K H a (names.map V.str) ∧ 1 ≤ p.1 ∧ p.1 ≤ 99 ∧ p.2.ov names ∧ p.2.dep ≤ 8 ∧
  ∀ H', Same H H' → Q (.bl true) H'
theorem sc_is_wish : FnScope ["thing", "names"] ["thing", "names"] (defScope s_is_wish) := ⟨rfl, rfl, rfl, by decide +kernel, rfl, by decide +kernel, by decide +kernel⟩
theorem ok_is_wish (D : Hd K mg) : OkG P w K mg base "is_wish" ["thing", "names"] 9 (spWish K) := by
  have G_is_saying := ok_is_saying (P := P) (w := w) (base := base) D 8
  have G_between := ok_between (P := P) (w := w) (base := base) D
  obtain ⟨t0, gc_DEPTH⟩ := g_DEPTH D
  obtain ⟨t1, gc_PRICE⟩ := g_PRICE D
  obtain ⟨fd, F⟩ := F_is_wish D
  refine ⟨g_is_wish D, F.kp, fd, F.ok sc_is_wish (fun vs H Q E h => ?_) (fun cdv A outer sS H vs Q E hr h => ?_), F.bindsN fun _ _ _ _ _ _ us hl => match us, hl with | [_, _], _ => rfl⟩
  · obtain ⟨v, p, a, names, rfl, _⟩ := h
    rfl
  obtain ⟨v, p, b, names, rfl, hv, hb, h1, h2, h3, h4, k⟩ := h
  obtain ⟨a, x, y, rfl, hT, h5, h6⟩ := hv.t2
  cases h5.int_inv
  refine ⟨_, (PSs.nox (pss_cons (ps_if (PW.pt (pw_or (pt_not (pt_val (pe_callB (cl_isiK K) (by rfl) (g_isinstance D) (by decide +kernel) (pa_cons (pv 0) (pa_cons (pe_bltn (v := .ty "tuple") (by rfl) (g_tuple D) (by decide +kernel) rfl) pa_nil))))) (pw_or1 (pt_cmpR op_ne (pe_callB (cl_lenK K) (by rfl) (g_len D) (by decide +kernel) (pa_cons (pv 0) pa_nil)) pe_int (nomark _))))) (pss_one (ps_ret pe_bl)) pss_nil)
      (pss_one (ps_ret (pe_and (pe_cl G_between hr (pa_cons (pe_ix (ix_tupK K) (pv 0) pe_int (fun _ _ => rfl)) (pa_cons pe_int (pa_cons (pe_gint gc_PRICE) pa_nil)))) (pe_one (pe_cl G_is_saying hr (pa_cons (pv 1) (pa_cons (pe_ix (ix_tupK K) (pv 0) pe_int (fun _ _ => rfl)) (pa_cons (pe_gint gc_DEPTH) pa_nil)))))))))), ?_⟩
  walk_at "ga"
  refine ⟨p.1, 1, 99, rfl, h1, h2, ?_⟩
  walk_at "ga"
  exact ⟨b, names, y, p.2, 8, rfl, hb, h6, h3, h4, Nat.le_refl _, k⟩
/-! ### sayings_of, pieces_of -/
theorem TD.at {H : Hp} {a : Addr} {xs : List V} {ds : List PyData} (h : TD K H (.ref a) (.tuple ds)) (hT : SqT K H a xs) : xs.length = xs.length := rfl
def spSays (K : PySem.W.Frag) : Sp := fun vs H Q _ => ∃ (v : V) (b : Book), vs = [v] ∧ TD K H v b.enc ∧ b.says.length ≤ 1000 ∧ ∀ r H', Same H H' → TD K H' r (encSays b.says) → Q r H'
theorem sc_sayings_of : FnScope ["book", "wish"] ["book"] (defScope s_sayings_of) := ⟨rfl, rfl, rfl, by decide +kernel, rfl, by decide +kernel, by decide +kernel⟩
theorem ok_sayings_of (D : Hd K mg) : OkG P w K mg base "sayings_of" ["book"] 1 (spSays K) := by
  obtain ⟨fd, F⟩ := F_sayings_of D
  refine ⟨g_sayings_of D, F.kp, fd, F.ok sc_sayings_of (fun vs H Q E h => ?_) (fun cdv A outer sS H vs Q E hr h => ?_), F.bindsN fun _ _ _ _ _ _ us hl => match us, hl with | [_], _ => rfl⟩
  · obtain ⟨v, b, rfl, _⟩ := h
    rfl
  obtain ⟨v, b, rfl, hv, hlen, k⟩ := h
  obtain ⟨a, x1, x2, x3, x4, x5, rfl, hT, h1, h2, h3, h4, h5⟩ := hv.t5
  obtain ⟨a3, y3, rfl, hT3, hs3⟩ := h3.tup_inv
  obtain ⟨a4, y4, rfl, hT4, hs4⟩ := h4.tup_inv
  obtain ⟨a5, y5, rfl, hT5, hs5⟩ := h5.tup_inv
  have hl : b.says.length = b.proms.length + b.musts.length + b.wishes.length := by unfold Book.says; rw [List.length_append, List.length_append, List.length_map]
  have l3 : y3.length = b.proms.length := by rw [hs3.length, List.length_map]
  have l4 : y4.length = b.musts.length := by rw [hs4.length, List.length_map]
  have l5 : y5.length = b.wishes.length := by rw [hs5.length, List.length_map]
  refine ⟨_, (PSs.nox (pss_one (ps_ret (pe_op (op_catAK K) (pe_op (op_catAK K) (pe_ix (ix_tupK K) (pv 0) pe_int (fun _ _ => rfl)) (pe_ix (ix_tupK K) (pv 0) pe_int (fun _ _ => rfl))) (pe_callTy (cl_tupK K) (by rfl) (g_tuple D) (by decide +kernel) (pa_cons (pe_lc (own := [("wish", 1)]) (g := gName 1) (tt := tYes) (by rfl) sc_sayings_of.nd (pi_tupK K (pe_ix (ix_tupK K) (pv 0) pe_int (fun _ _ => rfl))) (blkOk_by (N := ["book", "wish"]) (sc := defScope s_sayings_of) (by decide +kernel)) (fun _ _ _ _ _ => (pg_name (i := 1) sc_sayings_of.nd rfl (Or.inl rfl))) (fun _ _ _ _ _ => pts_nil) (fun _ _ _ _ _ => (pe_ix (ix_tupK K) (pv 1) pe_int (fun _ _ => rfl)))) pa_nil)))))), ?_⟩
  walk_at "ga"
  refine l_catD hT3 hT4 (sz (by omega)) fun c H1 e1 hc => ?_
  walk_at "ga"
  -- the wishes' sayings, one after another
  have hw : ∀ i, i ≤ b.wishes.length → ∃ zs : List V, zs.length = i ∧ TDs K H zs ((b.wishes.take i).map fun p => p.2.enc) ∧ ∀ j x, j < i → y5[j]? = some x → ∃ c p z, x = .ref c ∧ SqT K H c [p, z] ∧ zs[j]? = some z := by
    intro i
    induction i with
    | zero => exact fun _ => ⟨[], rfl, .nil, fun j x hj => absurd hj (Nat.not_lt_zero _)⟩
    | succ i ih =>
      intro hi
      obtain ⟨zs, hz1, hz2, hz3⟩ := ih (by omega)
      have hi5 : i < y5.length := by omega
      have hgi : b.wishes[i]? = some b.wishes[i] := List.getElem?_eq_getElem (by omega)
      obtain ⟨x, hx, hx2⟩ := hs5.get (i := i) (d := encWish b.wishes[i]) (by rw [List.getElem?_map, hgi]; rfl)
      obtain ⟨c, p, z, rfl, hc, hc1, hc2⟩ := hx2.t2
      refine ⟨zs ++ [z], by rw [List.length_append, hz1]; rfl, ?_, fun j x hj hx' => ?_⟩
      · rw [take_get hgi, List.map_append]
        exact hz2.append (.one hc2)
      · by_cases hji : j < i
        · obtain ⟨c', p', z', q1, q2, q3⟩ := hz3 j x hji hx'
          exact ⟨c', p', z', q1, q2, by rw [List.getElem?_append_left (by omega)]; exact q3⟩
        · have hji2 : j = i := by omega
          subst hji2
          rw [hx] at hx'
          cases hx'
          exact ⟨c, p, z, rfl, hc, by rw [List.getElem?_append_right (by omega), hz1, Nat.sub_self]; rfl⟩
  obtain ⟨zs, hz1, hz2, hz3⟩ := hw b.wishes.length (Nat.le_refl _)
  rw [List.take_length] at hz2
  refine lcT (sqt_same e1 hT5) (fun i => zs.take i) rfl (fun Dd i x H' hD hx e hl => ?_) (fun Dd H' hD e hl => ?_)
  · walk_at "go"
    refine ⟨rfl, ?_⟩
    have hi : i < b.wishes.length := by rw [← l5]; exact (List.getElem?_eq_some_iff.mp hx).1
    obtain ⟨c2, p, z, rfl, hc2, hz⟩ := hz3 i x hi hx
    have hc3 := sqt_same (e1.trans e) hc2
    walk_at "ga"
    exact lc_put hD e hl (szl (by rw [List.length_take]; omega)) (take_get hz)
  · walk_at "ga"
    refine l_tupL (SqL.of hl) fun t ht => ?_
    rw [l5, ← hz1, List.take_length]
    have e2 : Same H1 (upd H' t (.tup zs)) := e.trans (same_new ht)
    refine l_catD (sqt_same e2 hc) (SqT.of upd_same) (sz (by rw [List.length_append]; omega)) fun r H2 e3 hr => ?_
    refine k _ H2 (e1.trans (e2.trans e3)) (.tup hr ?_)
    have e4 : Same H H2 := e1.trans (e2.trans e3)
    have eq : b.says.map Say.enc = b.proms.map Say.enc ++ b.musts.map Say.enc ++ b.wishes.map fun p => p.2.enc := by
      unfold Book.says
      rw [List.map_append, List.map_append, List.map_map]
      rfl
    rw [eq]
    exact ((tds_same e4 hs3).append (tds_same e4 hs4)).append (tds_same e4 hz2)
def spPieces (K : PySem.W.Frag) : Sp := fun vs H Q _ => ∃ (v : V) (b : Book), vs = [v] ∧ TD K H v b.enc ∧ b.says.length ≤ 100 ∧ (∀ s ∈ b.says, s.ov LN ∧ s.dep ≤ 8) ∧
  ∀ l ws H', Same H H' → H l = none → H' l = some (.lst ws) → TDs K H' ws (b.pieces.map Say.enc) → Q (.ref l) H'
theorem sc_pieces_of : FnScope ["book", "made", "saying"] ["book"] (defScope s_pieces_of) := ⟨rfl, rfl, rfl, by decide +kernel, rfl, by decide +kernel, by decide +kernel⟩
theorem fold_gather_len (l : List Say) (h : ∀ s ∈ l, s.dep ≤ 8) : ∀ ms : List Say, (l.foldl (fun ms s => s.gather ms) ms).length ≤ ms.length + 256 * l.length := by
  induction l with
  | nil => intro ms; show ms.length ≤ _; omega
  | cons s l ih =>
    intro ms
    have h1 := ih (fun q hq => h q (List.mem_cons_of_mem _ hq)) (s.gather ms)
    have h2 := gather_len s ms
    have h3 := sz8 (h s (by simp))
    show ((l.foldl _ (s.gather ms))).length ≤ ms.length + 256 * (l.length + 1)
    omega
theorem fold_gather_all {p : Say → Prop} (hp : ∀ s, p s → ∀ q ∈ s.parts, p q) (l : List Say) (h : ∀ s ∈ l, p s) : ∀ ms : List Say, (∀ q ∈ ms, p q) → ∀ q ∈ l.foldl (fun ms s => s.gather ms) ms, p q := by
  induction l with
  | nil => intro ms hm; exact hm
  | cons s l ih => exact fun ms hm => ih (fun q hq => h q (List.mem_cons_of_mem _ hq)) _ (gather_all hp s ms hm (h s (by simp)))
theorem ok_pieces_of (D : Hd K mg) : OkG P w K mg base "pieces_of" ["book"] 10 (spPieces K) := by
  have G_sayings_of := ok_sayings_of (P := P) (w := w) (base := base) D
  have G_gathered := ok_gathered (P := P) (w := w) (base := base) D 8
  obtain ⟨fd, F⟩ := F_pieces_of D
  refine ⟨g_pieces_of D, F.kp, fd, F.ok sc_pieces_of (fun vs H Q E h => ?_) (fun cdv A outer sS H vs Q E hr h => ?_), F.bindsN fun _ _ _ _ _ _ us hl => match us, hl with | [_], _ => rfl⟩
  · obtain ⟨v, b, rfl, _⟩ := h
    rfl
  obtain ⟨v, b, rfl, hv, hlen, hss, k⟩ := h
  refine ⟨_, (PSs.nox (pss_cons (ps_set (i := 1) sc_pieces_of.nd rfl (Or.inl rfl) (pe_lst pa_nil))
      (pss_cons (ps_for PassesOwn.never rfl (pi_tupK K (pe_cl G_sayings_of hr (pa_cons (pv 0) pa_nil))) (pg_name (i := 2) sc_pieces_of.nd rfl (Or.inl rfl)) (pss_one (ps_expr (pe_cl G_gathered hr (pa_cons (pv 2) (pa_cons (pv 1) pa_nil))))))
      (pss_one (ps_ret (pv 1)))))), ?_⟩
  walk_at "ga"
  refine ⟨Nat.zero_le _, fun l hl0 => ?_⟩
  walk_at "ga"
  refine ⟨v, b, rfl, td_new hl0 hv, by omega, fun r H1 e1 hr => ?_⟩
  obtain ⟨c, ys, rfl, hT, hys⟩ := hr.tup_inv
  have hyl : ys.length = b.says.length := by rw [hys.length, List.length_map]
  have hl1 : H1 l = some (.lst []) := e1 _ _ upd_same
  refine forT hT (fun i σ' H' => ∃ z, σ' = [some v, some (.ref l), z] ∧ SameBut l H1 H' ∧ ∃ ws', H' l = some (.lst ws') ∧ TDs K H' ws' (((b.says.take i).foldl (fun m p => p.gather m) []).map Say.enc))
    ⟨_, rfl, SameBut.refl l H1, [], hl1, .nil⟩ (fun i σ' H' _ h => ?_) (fun i x σ' H' hx h => ?_) (fun σ' H' h => ?_)
  · obtain ⟨z, _, e3, _⟩ := h
    exact (e3.tup hl1) _ _ hT
  · obtain ⟨z, rfl, e3, ws3, hl3, hw3⟩ := h
    obtain ⟨d, hd1, hx2⟩ := hys.at hx
    rw [List.getElem?_map] at hd1
    obtain ⟨p, hp, rfl⟩ := Option.map_eq_some_iff.mp hd1
    have hpm : p ∈ b.says := List.mem_of_getElem? hp
    walk_at "go"
    refine ⟨x, p, l, ws3, _, rfl, hx2.mono (e3.tup hl1), hl3, hw3, (hss p hpm).1, (hss p hpm).2, Nat.le_refl _, ?_, ?_, fun H4 ws4 e4 hl4 hw4 => ?_⟩
    · exact fold_gather_all (p := fun q => q.ov LN ∧ q.dep ≤ 60) (fun s hs q hq => ⟨Say.ov_parts hs.1 hq, by have := Say.dep_parts hq; omega⟩) _ (fun s hs => ⟨(hss s (List.mem_of_mem_take hs)).1, by have := (hss s (List.mem_of_mem_take hs)).2; omega⟩) [] (fun q hq => nomatch hq)
    · have q1 := fold_gather_len (b.says.take i) (fun s hs => (hss s (List.mem_of_mem_take hs)).2) []
      have q2 := sz8 (hss p hpm).2
      have q3 : (b.says.take i).length ≤ 100 := by rw [List.length_take]; omega
      have q4 : ([] : List Say).length = 0 := rfl
      omega
    · refine ⟨_, rfl, e3.trans e4, ws4, hl4, ?_⟩
      rw [take_get hp, List.foldl_append]
      exact hw4
  · obtain ⟨z, rfl, e3, ws3, hl3, hw3⟩ := h
    rw [hyl, List.take_length] at hw3
    walk_at "go"
    have s1 : Same H (upd H l (.lst [])) := same_new hl0
    exact k l ws3 H' (e3.same (s1.trans e1) hl0) hl0 hl3 hw3
end
section
variable {P : Program} {w : World} {K : PySem.W.Frag} {mg : Str → Option Value} {base : Heap}
theorem plain_strs : ∀ ns : List Str, PyData.plainAll (ns.map PyData.str) = true
  | [] => by rw [List.map_nil]; simp only [PyData.plainAll]
  | n :: ns => by rw [List.map_cons]; simp only [PyData.plainAll, PyData.plain, Bool.true_and]; exact plain_strs ns
theorem count_str (z : Str) : ∀ ns : List Str, ((ns.map PyData.str).countP fun y => PyData.eqv y (.str z)) = ns.countP fun y => decide (y = z)
  | [] => rfl
  | n :: ns => by
    rw [List.map_cons, List.countP_cons, List.countP_cons, count_str z ns, eqv_str]
theorem count_none (z : Str) : ∀ ns : List Str, z ∉ ns → (ns.countP fun y => decide (y = z)) = 0
  | [], _ => rfl
  | n :: ns, h => by
    rw [List.countP_cons, count_none z ns (fun q => h (List.mem_cons_of_mem _ q)), if_neg]
    intro e
    exact h (by rw [of_decide_eq_true e]; exact List.mem_cons_self)
theorem count_one {z : Str} : ∀ {ns : List Str}, ns.Nodup → z ∈ ns → (ns.countP fun y => decide (y = z)) = 1
  | [], _, h => nomatch h
  | n :: ns, hn, h => by
    obtain ⟨h1, h2⟩ := List.nodup_cons.mp hn
    rw [List.countP_cons]
    by_cases e : n = z
    · subst e
      rw [count_none n ns h1, if_pos (by simp)]
    · have hz : z ∈ ns := (List.mem_cons.mp h).resolve_left fun q => e q.symm
      rw [count_one h2 hz, if_neg (by simp [e])]
def spBook (K : PySem.W.Frag) : Sp := fun vs H Q _ => ∃ (v : V) (b : Book), vs = [v] ∧ TD K H v b.enc ∧ b.Ok ∧ ∀ H', Same H H' → Q (.bl true) H'
theorem Book.Ok.says100 {b : Book} (h : b.Ok) : b.says.length ≤ 11 := by
  unfold Book.says
  rw [List.length_append, List.length_append, List.length_map]
  have := h.p3
  have := h.m3
  have := h.w5
  omega
theorem Book.Ok.ln8 {b : Book} (h : b.Ok) : ∀ s ∈ b.says, s.ov LN ∧ s.dep ≤ 8 := fun s hs => ⟨Say.ov_mono h.ln s (h.ov s hs).1, (h.ov s hs).2⟩
theorem Book.proms_says {b : Book} : ∀ s ∈ b.proms, s ∈ b.says := fun s h => List.mem_append_left _ (List.mem_append_left _ h)
theorem Book.musts_says {b : Book} : ∀ s ∈ b.musts, s ∈ b.says := fun s h => List.mem_append_left _ (List.mem_append_right _ h)
theorem Book.wish_says {b : Book} : ∀ p ∈ b.wishes, p.2 ∈ b.says := fun p h => List.mem_append_right _ (List.mem_map.mpr ⟨p, h, rfl⟩)
theorem sc_is_book : FnScope ["thing", "names", "name", "wish", "saying"] ["thing"] (defScope s_is_book) := ⟨rfl, rfl, rfl, by decide +kernel, rfl, by decide +kernel, by decide +kernel⟩
theorem ok_is_book (D : Hd K mg) : OkG P w K mg base "is_book" ["thing"] 12 (spBook K) := by
  have G_are_names := ok_are_names (P := P) (w := w) (base := base) D
  have G_are_sayings := ok_are_sayings (P := P) (w := w) (base := base) D
  have G_is_wish := ok_is_wish (P := P) (w := w) (base := base) D
  have G_stands_free := ok_stands_free (P := P) (w := w) (base := base) D 8
  have G_pieces_of := ok_pieces_of (P := P) (w := w) (base := base) D
  obtain ⟨t0, gc_PIECES⟩ := g_PIECES D
  obtain ⟨fd, F⟩ := F_is_book D
  refine ⟨g_is_book D, F.kp, fd, F.ok sc_is_book (fun vs H Q E h => ?_) (fun cdv A outer sS H vs Q E hr h => ?_), F.bindsN fun _ _ _ _ _ _ us hl => match us, hl with | [_], _ => rfl⟩
  · obtain ⟨v, b, rfl, _⟩ := h
    rfl
  obtain ⟨v, b, rfl, hv, hb, k⟩ := h
  obtain ⟨a, x1, x2, x3, x4, x5, rfl, hT, h1, h2, h3, h4, h5⟩ := id hv.t5
  refine ⟨_, (PSs.nox (pss_cons (ps_if (PW.pt (pw_or (pt_not (pt_val (pe_callB (cl_isiK K) (by rfl) (g_isinstance D) (by decide +kernel) (pa_cons (pv 0) (pa_cons (pe_bltn (v := .ty "tuple") (by rfl) (g_tuple D) (by decide +kernel) rfl) pa_nil))))) (pw_or (pt_cmpR op_ne (pe_callB (cl_lenK K) (by rfl) (g_len D) (by decide +kernel) (pa_cons (pv 0) pa_nil)) pe_int (nomark _)) (pw_or (pt_not (pt_val (pe_cl G_are_names hr (pa_cons (pe_ix (ix_tupK K) (pv 0) pe_int (fun _ _ => rfl)) pa_nil)))) (pw_or1 (pt_not (pt_val (pe_cl G_are_names hr (pa_cons (pe_ix (ix_tupK K) (pv 0) pe_int (fun _ _ => rfl)) pa_nil))))))))) (pss_one (ps_ret pe_bl)) pss_nil)
      (pss_cons (ps_set (i := 1) sc_is_book.nd rfl (Or.inr rfl) (pe_op (op_catFK K) (pe_ix (ix_tupK K) (pv 0) pe_int (fun _ _ => rfl)) (pe_ix (ix_tupK K) (pv 0) pe_int (fun _ _ => rfl))))
      (pss_cons (ps_if (pt_not (pt_val (pe_callB (cr_allK K rfl) (by rfl) (g_all D) (by decide +kernel) (pa_cons (pe_lc (own := [("name", 2)]) (g := gName 2) (tt := tYes) (by rfl) sc_is_book.nd (pi_tupK K (pv 1)) (blkOk_by (N := ["thing", "names", "name", "wish", "saying"]) (sc := defScope s_is_book) (by decide +kernel)) (fun _ _ _ _ _ => (pg_name (i := 2) sc_is_book.nd rfl (Or.inl rfl))) (fun _ _ _ _ _ => pts_nil) (fun _ _ _ _ _ => (pe_cmpR op_eq (pe_bmF PySem.F.slot_tuple_count PySem.F.type_tuple_count (mt_tcntK K (hu65 hr)) (pv 1) (pa_cons (pv 2) pa_nil)) pe_int (nomark _)))) pa_nil)))) (pss_one (ps_ret pe_bl)) pss_nil)
      (pss_cons (ps_if (PW.pt (pw_or (pt_not (pt_val (pe_cl G_are_sayings hr (pa_cons (pe_ix (ix_tupK K) (pv 0) pe_int (fun _ _ => rfl)) (pa_cons (pv 1) (pa_cons pe_int pa_nil)))))) (pw_or1 (pt_not (pt_val (pe_cl G_are_sayings hr (pa_cons (pe_ix (ix_tupK K) (pv 0) pe_int (fun _ _ => rfl)) (pa_cons (pv 1) (pa_cons pe_int pa_nil))))))))) (pss_one (ps_ret pe_bl)) pss_nil)
      (pss_cons (ps_if (PW.pt (pw_or (pt_not (pt_val (pe_callB (cl_isiK K) (by rfl) (g_isinstance D) (by decide +kernel) (pa_cons (pe_ix (ix_tupK K) (pv 0) pe_int (fun _ _ => rfl)) (pa_cons (pe_bltn (v := .ty "tuple") (by rfl) (g_tuple D) (by decide +kernel) rfl) pa_nil))))) (pw_or1 (pt_not (pt_chain op_le op_le pe_int (pe_callB (cl_lenK K) (by rfl) (g_len D) (by decide +kernel) (pa_cons (pe_ix (ix_tupK K) (pv 0) pe_int (fun _ _ => rfl)) pa_nil)) pe_int))))) (pss_one (ps_ret pe_bl)) pss_nil)
      (pss_cons (ps_if (pt_not (pt_val (pe_callB (cr_allK K rfl) (by rfl) (g_all D) (by decide +kernel) (pa_cons (pe_lc (own := [("wish", 3)]) (g := gName 3) (tt := tYes) (by rfl) sc_is_book.nd (pi_tupK K (pe_ix (ix_tupK K) (pv 0) pe_int (fun _ _ => rfl))) (blkOk_by (N := ["thing", "names", "name", "wish", "saying"]) (sc := defScope s_is_book) (by decide +kernel)) (fun _ _ _ _ _ => (pg_name (i := 3) sc_is_book.nd rfl (Or.inl rfl))) (fun _ _ _ _ _ => pts_nil) (fun _ _ _ _ _ => (pe_cl G_is_wish hr (pa_cons (pv 3) (pa_cons (pv 1) pa_nil))))) pa_nil)))) (pss_one (ps_ret pe_bl)) pss_nil)
      (pss_cons (ps_if (pt_val (pe_callB (cr_anyK K rfl) (by rfl) (g_any D) (by decide +kernel) (pa_cons (pe_lc (own := [("saying", 4)]) (g := gName 4) (tt := tYes) (by rfl) sc_is_book.nd (pi_tupK K (pe_ix (ix_tupK K) (pv 0) pe_int (fun _ _ => rfl))) (blkOk_by (N := ["thing", "names", "name", "wish", "saying"]) (sc := defScope s_is_book) (by decide +kernel)) (fun _ _ _ _ _ => (pg_name (i := 4) sc_is_book.nd rfl (Or.inl rfl))) (fun _ _ _ _ _ => pts_nil) (fun _ _ _ _ _ => (pe_cl G_stands_free hr (pa_cons (pv 4) (pa_cons (pe_ix (ix_tupK K) (pv 0) pe_int (fun _ _ => rfl)) pa_nil))))) pa_nil))) (pss_one (ps_ret pe_bl)) pss_nil)
      (pss_one (ps_ret (pe_cmpR op_le (pe_callB (cl_lenK K) (by rfl) (g_len D) (by decide +kernel) (pa_cons (pe_cl G_pieces_of hr (pa_cons (pv 0) pa_nil)) pa_nil)) (pe_gint gc_PIECES) (nomark _)))))))))))), ?_⟩
  walk_at "ga"
  refine ⟨x1, b.foe, rfl, h1, hb.foe1, hb.foe2, fun n hn => hb.ln n (List.mem_append_left _ hn), fun H1 e1 => ?_⟩
  walk_at "ga"
  refine ⟨x2, b.fr, rfl, td_same e1 h2, hb.fr1, hb.fr2, fun n hn => hb.ln n (List.mem_append_right _ hn), fun H2 e2 => ?_⟩
  walk_at "ga"
  obtain ⟨a1, y1, rfl, hT1, hs1⟩ := h1.tup_inv
  cases hs1.strs_inv
  obtain ⟨a2, y2, rfl, hT2, hs2⟩ := h2.tup_inv
  cases hs2.strs_inv
  have e12 := e1.trans e2
  have hf1 := hb.foe1
  have hf2 := hb.foe2
  have hr1 := hb.fr1
  have hr2 := hb.fr2
  refine l_catF (sqt_same e12 hT1) (sqt_same e12 hT2) ?_ ?_ (sz (by rw [List.length_map, List.length_map]; omega)) fun p o hp ho => ?_
  · intro z
    have := congrArg List.length z
    rw [List.length_map] at this
    rw [this] at hf1
    exact absurd hf1 (by decide)
  · intro z
    have := congrArg List.length z
    rw [List.length_map] at this
    rw [this] at hr1
    exact absurd hr1 (by decide)
  have e3 : Same H2 (upd H2 p (.frz o (.tup (b.foe.map V.str ++ b.fr.map V.str)))) := same_new hp
  have hN : TupF (upd H2 p (.frz o (.tup (b.foe.map V.str ++ b.fr.map V.str)))) p (b.names.map V.str) := ⟨o, ho, by unfold Book.names; rw [List.map_append]; exact upd_same⟩
  revert hN e3
  generalize upd H2 p (.frz o (.tup (b.foe.map V.str ++ b.fr.map V.str))) = H3
  intro e3 hN
  have e03 := e12.trans e3
  have nl : b.names.length ≤ 4 := by unfold Book.names; rw [List.length_append]; omega
  walk_at "ga"
  -- the names are all unlike
  refine lcT hN.sqt (fun i => List.replicate i (V.bl true)) rfl (fun Dd i x H' hD hx e hl => ?_) (fun Dd H4 hD e4 hl4 => ?_)
  · walk_at "go"
    refine ⟨rfl, ?_⟩
    rw [List.getElem?_map] at hx
    obtain ⟨n, hn, rfl⟩ := Option.map_eq_some_iff.mp hx
    have hi := (List.getElem?_eq_some_iff.mp hn).1
    walk_at "ga"
    refine ⟨⟨_, _, rfl, hN.same e⟩, ?_⟩
    walk_at "go"
    refine l_tcnt (sqt_same e hN.sqt) (plain_strs _) (by simp only [PyData.plain]) ?_
    rw [count_str, count_one hb.nd (List.mem_of_getElem? hn)]
    walk_at "go"
    exact lc_put hD e hl (szl (by rw [List.length_replicate]; omega)) (by rw [List.replicate_succ']; rfl)
  walk_at "go"
  refine l_all (bs := List.replicate _ true) (by rw [← replicate_bl]; exact SqL.of hl4) ?_
  rw [all_rep]
  walk_at "ga"
  have e04 := e03.trans e4
  -- the sayings
  refine ⟨x3, b.proms, p, b.names, 3, rfl, td_same e04 h3, sqt_same e4 hN.sqt, hb.p3, by decide, fun s hs => hb.ov s (Book.proms_says s hs), fun H5 e5 => ?_⟩
  walk_at "ga"
  have e05 := e04.trans e5
  refine ⟨x4, b.musts, p, b.names, 3, rfl, td_same e05 h4, sqt_same (e4.trans e5) hN.sqt, hb.m3, by decide, fun s hs => hb.ov s (Book.musts_says s hs), fun H6 e6 => ?_⟩
  walk_at "ga"
  have e06 := e05.trans e6
  have hN6 := hN.same ((e4.trans e5).trans e6)
  obtain ⟨a5, y5, rfl, hT5, hs5⟩ := h5.tup_inv
  have l5 : y5.length = b.wishes.length := by rw [hs5.length, List.length_map]
  have hw1 := hb.w1
  have hw5 := hb.w5
  walk_at "ga"
  refine l_iT (decide_eq_true (by omega)) ?_
  walk_at "go"
  rw [decide_eq_true (show ((y5.length : Nat) : Int) ≤ 5 by omega)]
  walk_at "ga"
  -- the wishes
  refine lcT (sqt_same e06 hT5) (fun i => List.replicate i (V.bl true)) rfl (fun Dd i x H' hD hx e hl => ?_) (fun Dd H7 hD e7 hl7 => ?_)
  · walk_at "go"
    refine ⟨rfl, ?_⟩
    walk_at "ga"
    obtain ⟨d, hd1, hx2⟩ := hs5.at hx
    rw [List.getElem?_map] at hd1
    obtain ⟨q, hq, rfl⟩ := Option.map_eq_some_iff.mp hd1
    have hqm : q ∈ b.wishes := List.mem_of_getElem? hq
    have hi := (List.getElem?_eq_some_iff.mp hq).1
    have ho := hb.ov q.2 (Book.wish_says q hqm)
    exact ⟨x, q, p, b.names, rfl, td_same (e06.trans e) hx2, sqt_same e hN6.sqt, (hb.price q hqm).1, (hb.price q hqm).2, ho.1, ho.2, fun H8 e8 => lc_put hD (e.trans e8) (e8 _ _ hl) (szl (by rw [List.length_replicate]; omega)) (by rw [List.replicate_succ'])⟩
  walk_at "go"
  refine l_all (bs := List.replicate _ true) (by rw [← replicate_bl]; exact SqL.of hl7) ?_
  rw [all_rep]
  walk_at "ga"
  have e07 := e06.trans e7
  -- no lamp of the friend's stands free in a promise
  obtain ⟨a3, y3, rfl, hT3, hs3⟩ := h3.tup_inv
  have l3 : y3.length = b.proms.length := by rw [hs3.length, List.length_map]
  have hp3 := hb.p3
  walk_at "ga"
  refine lcT (sqt_same e07 hT3) (fun i => List.replicate i (V.bl false)) rfl (fun Dd i x H' hD hx e hl => ?_) (fun Dd H8 hD e8 hl8 => ?_)
  · walk_at "go"
    refine ⟨rfl, ?_⟩
    walk_at "ga"
    obtain ⟨d, hd1, hx2⟩ := hs3.at hx
    rw [List.getElem?_map] at hd1
    obtain ⟨q, hq, rfl⟩ := Option.map_eq_some_iff.mp hd1
    have hqm : q ∈ b.proms := List.mem_of_getElem? hq
    have hi := (List.getElem?_eq_some_iff.mp hq).1
    have ho := hb.ov q (Book.proms_says q hqm)
    have hf := hb.nofree q hqm
    refine ⟨x, q, a2, b.fr, rfl, td_same (e07.trans e) hx2, sqt_same (e07.trans e) hT2, ho.2, fun H9 e9 => ?_⟩
    rw [hf]
    exact lc_put hD (e.trans e9) (e9 _ _ hl) (szl (by rw [List.length_replicate]; omega)) (by rw [List.replicate_succ'])
  walk_at "go"
  refine l_any (bs := List.replicate y3.length false) (by rw [List.map_replicate]; exact SqL.of hl8) ?_
  have hany : (List.replicate y3.length false).any id = false := by
    rw [List.any_eq_false]
    intro x hx
    rw [(List.mem_replicate.mp hx).2]
    decide
  rw [hany]
  walk_at "ga"
  have e08 := e07.trans e8
  have := hb.says100
  refine ⟨_, b, rfl, td_same e08 hv, by omega, hb.ln8, fun l ws H9 e9 hl0 hl9 hw9 => ?_⟩
  walk_at "go"
  have lw : ws.length = b.pieces.length := by rw [hw9.length, List.length_map]
  have hp4 := hb.p4
  rw [decide_eq_true (show ((ws.length : Nat) : Int) ≤ 4 by omega)]
  exact k H9 (e08.trans e9)
def spChecked (K : PySem.W.Frag) : Sp := fun vs H Q _ => ∃ (v : V) (b : Book), vs = [v] ∧ TD K H v b.enc ∧ b.Ok ∧ ∀ H', Same H H' → Q v H'
theorem sc_checked : FnScope ["book"] ["book"] (defScope s_checked) := ⟨rfl, rfl, rfl, by decide +kernel, rfl, by decide +kernel, by decide +kernel⟩
theorem ok_checked (D : Hd K mg) : OkG P w K mg base "checked" ["book"] 13 (spChecked K) := by
  have G_is_book := ok_is_book (P := P) (w := w) (base := base) D
  obtain ⟨fd, F⟩ := F_checked D
  refine ⟨g_checked D, F.kp, fd, F.ok sc_checked (fun vs H Q E h => ?_) (fun cdv A outer sS H vs Q E hr h => ?_), F.bindsN fun _ _ _ _ _ _ us hl => match us, hl with | [_], _ => rfl⟩
  · obtain ⟨v, b, rfl, _⟩ := h
    rfl
  obtain ⟨v, b, rfl, hv, hb, k⟩ := h
  refine ⟨_, (PSs.nox (pss_cons (ps_if (pt_not (pt_val (pe_cl G_is_book hr (pa_cons (pv 0) pa_nil)))) (pss_one ps_never) pss_nil)
      (pss_one (ps_ret (pv 0))))), ?_⟩
  walk_at "ga"
  refine ⟨v, b, rfl, hv, hb, fun H1 e1 => ?_⟩
  walk_at "ga"
  exact k H1 e1
end
section
variable {P : Program} {w : World} {K : PySem.W.Frag} {mg : Str → Option Value} {base : Heap}
/-! ### all settings of so many lamps -/
def settings : Nat → List (List Bool)
  | 0 => [[]]
  | n + 1 => (settings n).flatMap fun s => [s ++ [false], s ++ [true]]
theorem settings_len : ∀ n, (settings n).length = 2 ^ n
  | 0 => rfl
  | n + 1 => by
    have ih := settings_len n
    show ((settings n).flatMap fun s => [s ++ [false], s ++ [true]]).length = _
    rw [List.length_flatMap]
    have : (settings n).map (fun s => ([s ++ [false], s ++ [true]] : List (List Bool)).length) = (settings n).map fun _ => 2 := rfl
    rw [this, List.map_const', List.sum_replicate_nat, ih, Nat.pow_succ]
theorem l_ext {H : Hp} {Q : VK} {a b : Addr} {xs zs : List V} (h1 : H a = some (.lst xs)) (h2 : H b = some (.lst zs)) (hz : xs.length + zs.length ≤ sizeLine) (q : Q .non (upd H a (.lst (xs ++ zs)))) : rExtend (.ref a) [.ref b] H Q :=
  ⟨a, b, xs, zs, rfl, rfl, h1, h2, hz, q⟩
/-- a new list of data -/
def NewL (K : PySem.W.Frag) (ds : List PyData) (H : Hp) (Q : VK) : Prop := ∀ l ws H', Same H H' → H l = none → H' l = some (.lst ws) → TDs K H' ws ds → Q (.ref l) H'
def spSet (K : PySem.W.Frag) : Sp := fun vs H Q _ => ∃ n : Nat, vs = [.int (n : Nat)] ∧ n ≤ 4 ∧ NewL K ((settings n).map encB) H Q
theorem encB_snoc (s : List Bool) (b : Bool) : (s ++ [b]).map V.bl = s.map V.bl ++ [V.bl b] := by rw [List.map_append]; rfl
theorem sc_settings_of : FnScope ["many", "made", "turn", "longer", "setting"] ["many"] (defScope s_settings_of) := ⟨rfl, rfl, rfl, by decide +kernel, rfl, by decide +kernel, by decide +kernel⟩
theorem ok_settings_of (D : Hd K mg) : OkG P w K mg base "settings_of" ["many"] 1 (spSet K) := by
  obtain ⟨fd, F⟩ := F_settings_of D
  refine ⟨g_settings_of D, F.kp, fd, F.ok sc_settings_of (fun vs H Q E h => ?_) (fun cdv A outer sS H vs Q E hr h => ?_), F.bindsN fun _ _ _ _ _ _ us hl => match us, hl with | [_], _ => rfl⟩
  · obtain ⟨n, rfl, _⟩ := h
    rfl
  obtain ⟨n, rfl, hn, k⟩ := h
  refine ⟨_, (PSs.nox (pss_cons (ps_set (i := 1) sc_settings_of.nd rfl (Or.inl rfl) (pe_lst (pa_cons (pe_tup pa_nil) pa_nil)))
      (pss_cons (ps_for PassesOwn.never rfl (pi_range1 (by rfl) (g_range D) (pa_cons (pv 0) pa_nil)) (pg_name (i := 2) sc_settings_of.nd rfl (Or.inl rfl)) (pss_cons (ps_set (i := 3) sc_settings_of.nd rfl (Or.inl rfl) (pe_lst pa_nil))
      (pss_cons (ps_for PassesOwn.never rfl (pi_listK K (pv 1)) (pg_name (i := 4) sc_settings_of.nd rfl (Or.inl rfl)) (pss_one (ps_expr (pe_bmK K PySem.F.plainAttrs_list PySem.F.slot_list_extend PySem.F.type_list_extend mt_extend (pv 3) (pa_cons (pe_lst (pa_cons (pe_op (op_catAK K) (pv 4) (pe_tup (pa_cons pe_bl pa_nil))) (pa_cons (pe_op (op_catAK K) (pv 4) (pe_tup (pa_cons pe_bl pa_nil))) pa_nil))) pa_nil)))))
      (pss_one (ps_set (i := 1) sc_settings_of.nd rfl (Or.inl rfl) (pv 3))))))
      (pss_one (ps_ret (pv 1)))))), ?_⟩
  walk_at "ga"
  refine ⟨Nat.zero_le _, fun p hp => ?_⟩
  walk_at "ga"
  refine ⟨by show 1 ≤ sizeLine; decide, fun l hl => ?_⟩
  walk_at "ga"
  have hpl : H l = none := (same_new hp).free hl
  refine forR (n := n) (fun i σ' H' => ∃ l' ws z1 z2 z3, σ' = [some (.int (n : Nat)), some (.ref l'), z1, z2, z3] ∧ Same H H' ∧ H l' = none ∧ H' l' = some (.lst ws) ∧ TDs K H' ws ((settings i).map encB)) (by omega)
    ⟨l, [.ref p], none, none, none, rfl, (same_new hp).trans (same_new hl), hpl, upd_same, .one (.tup (sqt_new hl (SqT.of upd_same)) .nil)⟩ (fun i σ' H' hi h => ?_) (fun σ' H' h => ?_)
  · obtain ⟨l1, ws, z1, z2, z3, rfl, e1, hl1, hw, hs⟩ := h
    have hwl : ws.length = 2 ^ i := by rw [hs.length, List.length_map, settings_len]
    have h16 : 2 ^ i ≤ 16 := by
      have := Nat.pow_le_pow_right (n := 2) (by decide) (show i ≤ 4 by omega)
      omega
    walk_at "ga"
    refine ⟨Nat.zero_le _, fun l2 hl2 => ?_⟩
    walk_at "ga"
    have n12 : l1 ≠ l2 := ne_of_none hw hl2
    have hH1 : upd H' l2 (.lst []) l1 = some (.lst ws) := get_new hl2 hw
    refine forL (SqL.of hH1) (fun j σ2 H2 => ∃ z4 ws2, σ2 = [some (.int (n : Nat)), some (.ref l1), some (.int (i : Nat)), some (.ref l2), z4] ∧ SameBut l2 (upd H' l2 (.lst [])) H2 ∧ H2 l2 = some (.lst ws2) ∧
        TDs K H2 ws2 (((settings i).take j).flatMap fun s => [encB (s ++ [false]), encB (s ++ [true])])) ⟨z3, [], rfl, SameBut.refl _ _, upd_same, .nil⟩ (fun j σ2 H2 _ h => ?_) (fun j x σ2 H2 hx h => ?_) (fun σ2 H2 h => ?_)
    · obtain ⟨z4, ws2, _, e2, _⟩ := h
      exact SqL.of (e2 _ _ n12 hH1)
    · obtain ⟨z4, ws2, rfl, e2, hw2, hs2⟩ := h
      obtain ⟨d, hd1, hx2⟩ := hs.at hx
      rw [List.getElem?_map] at hd1
      obtain ⟨s, hsi, rfl⟩ := Option.map_eq_some_iff.mp hd1
      have hx3 : TD K H2 x (encB s) := (td_new hl2 hx2).mono (e2.tup upd_same)
      obtain ⟨a, rfl, ha⟩ := hx3.encB_inv
      have hs4 : s.length ≤ 1000 := by
        have hzl := hx3.tup_inv
        have key : ∀ n, ∀ s ∈ settings n, s.length = n := by
          intro n
          induction n with
          | zero => intro s hs; rw [List.mem_singleton.mp hs]; rfl
          | succ n ih =>
            intro s hs
            obtain ⟨t, ht, q⟩ := List.mem_flatMap.mp hs
            rcases List.mem_cons.mp q with rfl | q
            · rw [List.length_append, ih t ht]; rfl
            · rw [List.mem_singleton.mp q, List.length_append, ih t ht]; rfl
        have := key i s (List.mem_of_getElem? hsi)
        omega
      have hzs : (s.map V.bl).length + 1 ≤ sizeLine := sz (by rw [List.length_map]; omega)
      walk_at "go"
      refine ⟨tyv_list (SqL.of hw2), ?_⟩
      walk_at "go"
      refine ⟨by show 1 ≤ sizeLine; decide, fun p1 hp1 => ?_⟩
      refine l_catD (xs := s.map V.bl) (ys := [.bl false]) (sqt_new hp1 ha) (SqT.of upd_same) hzs fun c1 H3 e3 hc1 => ?_
      walk_at "go"
      refine ⟨by show 1 ≤ sizeLine; decide, fun p2 hp2 => ?_⟩
      have e4 : Same H2 H3 := (same_new hp1).trans e3
      refine l_catD (xs := s.map V.bl) (ys := [.bl true]) (sqt_new hp2 (sqt_same e4 ha)) (SqT.of upd_same) hzs fun c2 H5 e5 hc2 => ?_
      have e6 : Same H3 H5 := (same_new hp2).trans e5
      walk_at "go"
      refine ⟨by show 2 ≤ sizeLine; decide, fun p3 hp3 => ?_⟩
      walk_at "go"
      have e7 : Same H2 (upd H5 p3 (.lst [.ref c1, .ref c2])) := (e4.trans e6).trans (same_new hp3)
      have hw5 := e7 _ _ hw2
      have lw2 : ws2.length ≤ 100000 := by
        rw [hs2.length, List.length_flatMap]
        have q1 : (((settings i).take j).map fun s => ([encB (s ++ [false]), encB (s ++ [true])] : List PyData).length) = ((settings i).take j).map fun _ => 2 := rfl
        rw [q1, List.map_const', List.sum_replicate_nat, List.length_take, settings_len]
        omega
      refine l_ext hw5 upd_same (sz (by show ws2.length + 2 ≤ 1000000; omega)) ?_
      refine ⟨_, _, rfl, e2.trans ((SameBut.of_same e7).trans SameBut.upd), upd_same, ?_⟩
      rw [take_get hsi, List.flatMap_append]
      refine (tds_lst hw5 (tds_same e7 hs2)).append (.two ?_ ?_)
      · exact td_lst hw5 (td_new hp3 (td_encB (by rw [encB_snoc]; exact sqt_same e6 hc1)))
      · exact td_lst hw5 (td_new hp3 (td_encB (by rw [encB_snoc]; exact hc2)))
    · obtain ⟨z4, ws2, rfl, e2, hw2, hs2⟩ := h
      walk_at "go"
      have hll : ws.length = (settings i).length := by rw [hs.length, List.length_map]
      rw [hll, List.take_length] at hs2
      refine ⟨l2, ws2, _, _, _, rfl, e2.same (e1.trans (same_new hl2)) (e1.free hl2), e1.free hl2, hw2, ?_⟩
      have eq : (settings (i + 1)).map encB = (settings i).flatMap fun s => [encB (s ++ [false]), encB (s ++ [true])] := by
        show ((settings i).flatMap fun s => [s ++ [false], s ++ [true]]).map encB = _
        rw [List.map_flatMap]
        rfl
      rw [eq]
      exact hs2
  · obtain ⟨l1, ws, z1, z2, z3, rfl, e1, hl1, hw, hs⟩ := h
    walk_at "go"
    exact k l1 ws H' e1 hl1 hw hs
theorem sc_law_settings : FnScope ["_law_many", "_law_rows", "_law_turn", "_law_more", "_law_row"] ["_law_many"] (defScope s_law_settings) := ⟨rfl, rfl, rfl, by decide +kernel, rfl, by decide +kernel, by decide +kernel⟩
theorem ok_law_settings (D : Hd K mg) : OkG P w K mg base "_law_settings" ["_law_many"] 1 (spSet K) := by
  obtain ⟨fd, F⟩ := F_law_settings D
  refine ⟨g_law_settings D, F.kp, fd, F.ok sc_law_settings (fun vs H Q E h => ?_) (fun cdv A outer sS H vs Q E hr h => ?_), F.bindsN fun _ _ _ _ _ _ us hl => match us, hl with | [_], _ => rfl⟩
  · obtain ⟨n, rfl, _⟩ := h
    rfl
  obtain ⟨n, rfl, hn, k⟩ := h
  refine ⟨_, (PSs.nox (pss_cons (ps_set (i := 1) sc_law_settings.nd rfl (Or.inl rfl) (pe_lst (pa_cons (pe_tup pa_nil) pa_nil)))
      (pss_cons (ps_for PassesOwn.never rfl (pi_range1 (by rfl) (g_range D) (pa_cons (pv 0) pa_nil)) (pg_name (i := 2) sc_law_settings.nd rfl (Or.inl rfl)) (pss_cons (ps_set (i := 3) sc_law_settings.nd rfl (Or.inl rfl) (pe_lst pa_nil))
      (pss_cons (ps_for PassesOwn.never rfl (pi_listK K (pv 1)) (pg_name (i := 4) sc_law_settings.nd rfl (Or.inl rfl)) (pss_one (ps_expr (pe_bmK K PySem.F.plainAttrs_list PySem.F.slot_list_extend PySem.F.type_list_extend mt_extend (pv 3) (pa_cons (pe_lst (pa_cons (pe_op (op_catAK K) (pv 4) (pe_tup (pa_cons pe_bl pa_nil))) (pa_cons (pe_op (op_catAK K) (pv 4) (pe_tup (pa_cons pe_bl pa_nil))) pa_nil))) pa_nil)))))
      (pss_one (ps_set (i := 1) sc_law_settings.nd rfl (Or.inl rfl) (pv 3))))))
      (pss_one (ps_ret (pv 1)))))), ?_⟩
  walk_at "ga"
  refine ⟨Nat.zero_le _, fun p hp => ?_⟩
  walk_at "ga"
  refine ⟨by show 1 ≤ sizeLine; decide, fun l hl => ?_⟩
  walk_at "ga"
  have hpl : H l = none := (same_new hp).free hl
  refine forR (n := n) (fun i σ' H' => ∃ l' ws z1 z2 z3, σ' = [some (.int (n : Nat)), some (.ref l'), z1, z2, z3] ∧ Same H H' ∧ H l' = none ∧ H' l' = some (.lst ws) ∧ TDs K H' ws ((settings i).map encB)) (by omega)
    ⟨l, [.ref p], none, none, none, rfl, (same_new hp).trans (same_new hl), hpl, upd_same, .one (.tup (sqt_new hl (SqT.of upd_same)) .nil)⟩ (fun i σ' H' hi h => ?_) (fun σ' H' h => ?_)
  · obtain ⟨l1, ws, z1, z2, z3, rfl, e1, hl1, hw, hs⟩ := h
    have hwl : ws.length = 2 ^ i := by rw [hs.length, List.length_map, settings_len]
    have h16 : 2 ^ i ≤ 16 := by
      have := Nat.pow_le_pow_right (n := 2) (by decide) (show i ≤ 4 by omega)
      omega
    walk_at "ga"
    refine ⟨Nat.zero_le _, fun l2 hl2 => ?_⟩
    walk_at "ga"
    have n12 : l1 ≠ l2 := ne_of_none hw hl2
    have hH1 : upd H' l2 (.lst []) l1 = some (.lst ws) := get_new hl2 hw
    refine forL (SqL.of hH1) (fun j σ2 H2 => ∃ z4 ws2, σ2 = [some (.int (n : Nat)), some (.ref l1), some (.int (i : Nat)), some (.ref l2), z4] ∧ SameBut l2 (upd H' l2 (.lst [])) H2 ∧ H2 l2 = some (.lst ws2) ∧
        TDs K H2 ws2 (((settings i).take j).flatMap fun s => [encB (s ++ [false]), encB (s ++ [true])])) ⟨z3, [], rfl, SameBut.refl _ _, upd_same, .nil⟩ (fun j σ2 H2 _ h => ?_) (fun j x σ2 H2 hx h => ?_) (fun σ2 H2 h => ?_)
    · obtain ⟨z4, ws2, _, e2, _⟩ := h
      exact SqL.of (e2 _ _ n12 hH1)
    · obtain ⟨z4, ws2, rfl, e2, hw2, hs2⟩ := h
      obtain ⟨d, hd1, hx2⟩ := hs.at hx
      rw [List.getElem?_map] at hd1
      obtain ⟨s, hsi, rfl⟩ := Option.map_eq_some_iff.mp hd1
      have hx3 : TD K H2 x (encB s) := (td_new hl2 hx2).mono (e2.tup upd_same)
      obtain ⟨a, rfl, ha⟩ := hx3.encB_inv
      have hs4 : s.length ≤ 1000 := by
        have hzl := hx3.tup_inv
        have key : ∀ n, ∀ s ∈ settings n, s.length = n := by
          intro n
          induction n with
          | zero => intro s hs; rw [List.mem_singleton.mp hs]; rfl
          | succ n ih =>
            intro s hs
            obtain ⟨t, ht, q⟩ := List.mem_flatMap.mp hs
            rcases List.mem_cons.mp q with rfl | q
            · rw [List.length_append, ih t ht]; rfl
            · rw [List.mem_singleton.mp q, List.length_append, ih t ht]; rfl
        have := key i s (List.mem_of_getElem? hsi)
        omega
      have hzs : (s.map V.bl).length + 1 ≤ sizeLine := sz (by rw [List.length_map]; omega)
      walk_at "go"
      refine ⟨tyv_list (SqL.of hw2), ?_⟩
      walk_at "go"
      refine ⟨by show 1 ≤ sizeLine; decide, fun p1 hp1 => ?_⟩
      refine l_catD (xs := s.map V.bl) (ys := [.bl false]) (sqt_new hp1 ha) (SqT.of upd_same) hzs fun c1 H3 e3 hc1 => ?_
      walk_at "go"
      refine ⟨by show 1 ≤ sizeLine; decide, fun p2 hp2 => ?_⟩
      have e4 : Same H2 H3 := (same_new hp1).trans e3
      refine l_catD (xs := s.map V.bl) (ys := [.bl true]) (sqt_new hp2 (sqt_same e4 ha)) (SqT.of upd_same) hzs fun c2 H5 e5 hc2 => ?_
      have e6 : Same H3 H5 := (same_new hp2).trans e5
      walk_at "go"
      refine ⟨by show 2 ≤ sizeLine; decide, fun p3 hp3 => ?_⟩
      walk_at "go"
      have e7 : Same H2 (upd H5 p3 (.lst [.ref c1, .ref c2])) := (e4.trans e6).trans (same_new hp3)
      have hw5 := e7 _ _ hw2
      have lw2 : ws2.length ≤ 100000 := by
        rw [hs2.length, List.length_flatMap]
        have q1 : (((settings i).take j).map fun s => ([encB (s ++ [false]), encB (s ++ [true])] : List PyData).length) = ((settings i).take j).map fun _ => 2 := rfl
        rw [q1, List.map_const', List.sum_replicate_nat, List.length_take, settings_len]
        omega
      refine l_ext hw5 upd_same (sz (by show ws2.length + 2 ≤ 1000000; omega)) ?_
      refine ⟨_, _, rfl, e2.trans ((SameBut.of_same e7).trans SameBut.upd), upd_same, ?_⟩
      rw [take_get hsi, List.flatMap_append]
      refine (tds_lst hw5 (tds_same e7 hs2)).append (.two ?_ ?_)
      · exact td_lst hw5 (td_new hp3 (td_encB (by rw [encB_snoc]; exact sqt_same e6 hc1)))
      · exact td_lst hw5 (td_new hp3 (td_encB (by rw [encB_snoc]; exact hc2)))
    · obtain ⟨z4, ws2, rfl, e2, hw2, hs2⟩ := h
      walk_at "go"
      have hll : ws.length = (settings i).length := by rw [hs.length, List.length_map]
      rw [hll, List.take_length] at hs2
      refine ⟨l2, ws2, _, _, _, rfl, e2.same (e1.trans (same_new hl2)) (e1.free hl2), e1.free hl2, hw2, ?_⟩
      have eq : (settings (i + 1)).map encB = (settings i).flatMap fun s => [encB (s ++ [false]), encB (s ++ [true])] := by
        show ((settings i).flatMap fun s => [s ++ [false], s ++ [true]]).map encB = _
        rw [List.map_flatMap]
        rfl
      rw [eq]
      exact hs2
  · obtain ⟨l1, ws, z1, z2, z3, rfl, e1, hl1, hw, hs⟩ := h
    walk_at "go"
    exact k l1 ws H' e1 hl1 hw hs
/-! ### is_setting, need_play -/
def spIsSet (K : PySem.W.Frag) : Sp := fun vs H Q _ => ∃ (v : V) (s : List Bool) (n : Nat), vs = [v, .int (n : Nat)] ∧ TD K H v (encB s) ∧ s.length = n ∧ n ≤ 1000 ∧ ∀ H', Same H H' → Q (.bl true) H'
theorem sc_is_setting : FnScope ["thing", "many", "lamp"] ["thing", "many"] (defScope s_is_setting) := ⟨rfl, rfl, rfl, by decide +kernel, rfl, by decide +kernel, by decide +kernel⟩
theorem ok_is_setting (D : Hd K mg) : OkG P w K mg base "is_setting" ["thing", "many"] 1 (spIsSet K) := by
  obtain ⟨fd, F⟩ := F_is_setting D
  refine ⟨g_is_setting D, F.kp, fd, F.ok sc_is_setting (fun vs H Q E h => ?_) (fun cdv A outer sS H vs Q E hr h => ?_), F.bindsN fun _ _ _ _ _ _ us hl => match us, hl with | [_, _], _ => rfl⟩
  · obtain ⟨v, s, n, rfl, _⟩ := h
    rfl
  obtain ⟨v, s, n, rfl, hv, hs, hn, k⟩ := h
  obtain ⟨a, rfl, hT⟩ := hv.encB_inv
  refine ⟨_, (PSs.nox (pss_one (ps_ret (pe_and (pe_callB (cl_isiK K) (by rfl) (g_isinstance D) (by decide +kernel) (pa_cons (pv 0) (pa_cons (pe_bltn (v := .ty "tuple") (by rfl) (g_tuple D) (by decide +kernel) rfl) pa_nil))) (pe_and (pe_cmpR op_eq (pe_callB (cl_lenK K) (by rfl) (g_len D) (by decide +kernel) (pa_cons (pv 0) pa_nil)) (pv 1) (nomark _)) (pe_one (pe_callB (cr_allK K rfl) (by rfl) (g_all D) (by decide +kernel) (pa_cons (pe_lc (own := [("lamp", 2)]) (g := gName 2) (tt := tYes) (by rfl) sc_is_setting.nd (pi_tupK K (pv 0)) (blkOk_by (N := ["thing", "many", "lamp"]) (sc := defScope s_is_setting) (by decide +kernel)) (fun _ _ _ _ _ => (pg_name (i := 2) sc_is_setting.nd rfl (Or.inl rfl))) (fun _ _ _ _ _ => pts_nil) (fun _ _ _ _ _ => (pe_callB (cl_isiK K) (by rfl) (g_isinstance D) (by decide +kernel) (pa_cons (pv 2) (pa_cons (pe_bltn (v := .ty "bool") (by rfl) (g_bool D) (by decide +kernel) rfl) pa_nil))))) pa_nil)))))))), ?_⟩
  walk_at "ga"
  refine l_iT (decide_eq_true (by rw [List.length_map, hs])) ?_
  walk_at "go"
  refine lcT hT (fun i => List.replicate i (V.bl true)) rfl (fun Dd i x H' hD hx e hl => ?_) (fun Dd H' hD e hl => ?_)
  · rw [List.getElem?_map] at hx
    obtain ⟨b, hb, rfl⟩ := Option.map_eq_some_iff.mp hx
    have hi := (List.getElem?_eq_some_iff.mp hb).1
    walk_at "go"
    refine ⟨rfl, ?_⟩
    walk_at "ga"
    exact lc_put hD e hl (szl (by rw [List.length_replicate]; omega)) (by rw [List.replicate_succ'])
  · walk_at "go"
    refine l_all (bs := List.replicate _ true) (by rw [← replicate_bl]; exact SqL.of hl) ?_
    rw [all_rep]
    exact k H' e
def spNeed (K : PySem.W.Frag) : Sp := fun vs H Q _ => ∃ (v : V) (b : Book) (l : Addr) (ws : List V) (ss : List (List Bool)), vs = [v, .ref l] ∧ TD K H v b.enc ∧ b.names.length ≤ 100 ∧ H l = some (.lst ws) ∧ TDs K H ws (ss.map encB) ∧ (∀ s ∈ ss, s.length = b.names.length) ∧ ss.length ≤ 100000 ∧
  ∀ H', Same H H' → Q .non H'
theorem sc_need_play : FnScope ["book", "play", "many", "setting"] ["book", "play"] (defScope s_need_play) := ⟨rfl, rfl, rfl, by decide +kernel, rfl, by decide +kernel, by decide +kernel⟩
theorem ok_need_play (D : Hd K mg) : OkG P w K mg base "need_play" ["book", "play"] 2 (spNeed K) := by
  have G_is_setting := ok_is_setting (P := P) (w := w) (base := base) D
  obtain ⟨fd, F⟩ := F_need_play D
  refine ⟨g_need_play D, F.kp, fd, F.ok sc_need_play (fun vs H Q E h => ?_) (fun cdv A outer sS H vs Q E hr h => ?_), F.bindsN fun _ _ _ _ _ _ us hl => match us, hl with | [_, _], _ => rfl⟩
  · obtain ⟨v, b, l, ws, ss, rfl, _⟩ := h
    rfl
  obtain ⟨v, b, l, ws, ss, rfl, hv, hn, hl, hw, hs, hz, k⟩ := h
  obtain ⟨a, x1, x2, x3, x4, x5, rfl, hT, h1, h2, h3, h4, h5⟩ := hv.t5
  obtain ⟨a1, y1, rfl, hT1, hs1⟩ := h1.tup_inv
  obtain ⟨a2, y2, rfl, hT2, hs2⟩ := h2.tup_inv
  have q1 : y1.length = b.foe.length := by rw [hs1.length, List.length_map]
  have q2 : y2.length = b.fr.length := by rw [hs2.length, List.length_map]
  have q3 : b.names.length = b.foe.length + b.fr.length := by unfold Book.names; rw [List.length_append]
  have q4 : ws.length = ss.length := by rw [hw.length, List.length_map]
  refine ⟨_, (PSs.nox (pss_cons (ps_set (i := 2) sc_need_play.nd rfl (Or.inr rfl) (pe_op op_add (pe_callB (cl_lenK K) (by rfl) (g_len D) (by decide +kernel) (pa_cons (pe_ix (ix_tupK K) (pv 0) pe_int (fun _ _ => rfl)) pa_nil)) (pe_callB (cl_lenK K) (by rfl) (g_len D) (by decide +kernel) (pa_cons (pe_ix (ix_tupK K) (pv 0) pe_int (fun _ _ => rfl)) pa_nil))))
      (pss_one (ps_if (PW.pt (pw_or (pt_not (pt_val (pe_callB (cl_isiK K) (by rfl) (g_isinstance D) (by decide +kernel) (pa_cons (pv 1) (pa_cons (pe_bltn (v := .ty "list") (by rfl) (g_list D) (by decide +kernel) rfl) pa_nil))))) (pw_or1 (pt_not (pt_val (pe_callB (cr_allK K rfl) (by rfl) (g_all D) (by decide +kernel) (pa_cons (pe_lc (own := [("setting", 3)]) (g := gName 3) (tt := tYes) (by rfl) sc_need_play.nd (pi_listK K (pv 1)) (blkOk_by (N := ["book", "play", "many", "setting"]) (sc := defScope s_need_play) (by decide +kernel)) (fun _ _ _ _ _ => (pg_name (i := 3) sc_need_play.nd rfl (Or.inl rfl))) (fun _ _ _ _ _ => pts_nil) (fun _ _ _ _ _ => (pe_cl G_is_setting hr (pa_cons (pv 3) (pa_cons (pv 2) pa_nil))))) pa_nil))))))) (pss_one ps_never) pss_nil)))), ?_⟩
  walk_at "ga"
  refine lcL (SqL.of hl) (fun i => List.replicate i (V.bl true)) rfl (fun Dd i x H' hD hx e hl => ?_) (fun Dd H' hD e hl => ?_)
  · obtain ⟨d, hd1, hx2⟩ := hw.at hx
    rw [List.getElem?_map] at hd1
    obtain ⟨s, hsi, rfl⟩ := Option.map_eq_some_iff.mp hd1
    have hi := (List.getElem?_eq_some_iff.mp hsi).1
    walk_at "go"
    refine ⟨rfl, ?_⟩
    walk_at "ga"
    refine ⟨x, s, b.names.length, ?_, td_same e hx2, hs s (List.mem_of_getElem? hsi), by omega, fun H4 e4 => lc_put hD (e.trans e4) (e4 _ _ hl) (szl (by rw [List.length_replicate]; omega)) (by rw [List.replicate_succ'])⟩
    rw [q1, q2, q3]
    rfl
  · walk_at "go"
    refine l_all (bs := List.replicate _ true) (by rw [← replicate_bl]; exact SqL.of hl) ?_
    rw [all_rep]
    walk_at "ga"
    exact k H' e
end
section
variable {P : Program} {w : World} {K : PySem.W.Frag} {mg : Str → Option Value} {base : Heap}
/-! ### the truth of sayings at turns of a play -/
def rowF (b : Bool) (stp : Bool → Nat → Bool) : Nat → Bool
  | 0 => stp b 0
  | t + 1 => stp (rowF b stp t) (t + 1)
def bfF (f : Nat → Bool) : Nat → Bool
  | 0 => false
  | t + 1 => f t
def O2.jn : O2 → Bool → Bool → Bool
  | .an, x, y => x && y
  | .or, x, y => x || y
  | .th, x, y => y || !x
  | .sm, x, y => x == y
  | .si, _, _ => false
/-- whether a saying holds at the turn t of a play -/
def tat (names : List Str) (play : List (List Bool)) : Say → Nat → Bool
  | .lamp n => fun t => (play.getD t []).getD (ixOf n names) false
  | .cst b => fun _ => b
  | .one .nt s => fun t => !tat names play s t
  | .one .bf s => bfF (tat names play s)
  | .one .on s => rowF false fun p t => tat names play s t || p
  | .one .sf s => rowF true fun p t => tat names play s t && p
  | .two .si s u => rowF false fun p t => tat names play u t || (tat names play s t && p)
  | .two o s u => fun t => o.jn (tat names play s t) (tat names play u t)
def row (f : Nat → Bool) (n : Nat) : List Bool := (List.range n).map f
theorem row_len (f : Nat → Bool) (n : Nat) : (row f n).length = n := by unfold row; rw [List.length_map, List.length_range]
theorem row_get {f : Nat → Bool} {n t : Nat} (h : t < n) : (row f n)[t]? = some (f t) := by
  unfold row
  rw [List.getElem?_map, List.getElem?_range h]
  rfl
theorem row_succ (f : Nat → Bool) (n : Nat) : row f (n + 1) = row f n ++ [f n] := by
  unfold row
  rw [List.range_succ, List.map_append]
  rfl
theorem row_bl {f : Nat → Bool} {n t : Nat} (h : t < n) : atI ((row f n).map V.bl) ((t : Nat) : Int) = some (V.bl (f t)) := atI_nat (by rw [List.getElem?_map, row_get h]; rfl)
/-- at l the rows of f (and g), n long -/
def Rows1 (K : PySem.W.Frag) (H : Hp) (l : Addr) (f : Nat → Bool) (n : Nat) : Prop := ∃ r, SqL K H l [.ref r] ∧ SqL K H r ((row f n).map V.bl)
def Rows2 (K : PySem.W.Frag) (H : Hp) (l : Addr) (f g : Nat → Bool) (n : Nat) : Prop := ∃ r q, SqL K H l [.ref r, .ref q] ∧ SqL K H r ((row f n).map V.bl) ∧ SqL K H q ((row g n).map V.bl)
theorem Rows1.same {H H' : Hp} {l : Addr} {f : Nat → Bool} {n : Nat} (e : Same H H') (h : Rows1 K H l f n) : Rows1 K H' l f n := by
  obtain ⟨r, h1, h2⟩ := h
  exact ⟨r, e.seq h1, e.seq h2⟩
theorem Rows2.same {H H' : Hp} {l : Addr} {f g : Nat → Bool} {n : Nat} (e : Same H H') (h : Rows2 K H l f g n) : Rows2 K H' l f g n := by
  obtain ⟨r, q, h1, h2, h3⟩ := h
  exact ⟨r, q, e.seq h1, e.seq h2, e.seq h3⟩
def spJoin (K : PySem.W.Frag) : Sp := fun vs H Q _ => ∃ (l : Addr) (t n : Nat) (f : Nat → Bool), t < n ∧ ((vs = [.str "not", .ref l, .int (t : Nat)] ∧ Rows1 K H l f n ∧ Q (.bl (!f t)) H) ∨
  ∃ (o : O2) (g : Nat → Bool), o ≠ .si ∧ vs = [.str o.str, .ref l, .int (t : Nat)] ∧ Rows2 K H l f g n ∧ Q (.bl (o.jn (f t) (g t))) H)
theorem sc_joined : FnScope ["head", "rows", "turn"] ["head", "rows", "turn"] (defScope s_joined) := ⟨rfl, rfl, rfl, by decide +kernel, rfl, by decide +kernel, by decide +kernel⟩
theorem ok_joined (D : Hd K mg) : OkG P w K mg base "joined" ["head", "rows", "turn"] 1 (spJoin K) := by
  obtain ⟨fd, F⟩ := F_joined D
  refine ⟨g_joined D, F.kp, fd, F.ok sc_joined (fun vs H Q E h => ?_) (fun cdv A outer sS H vs Q E hr h => ?_), F.bindsN fun _ _ _ _ _ _ us hl => match us, hl with | [_, _, _], _ => rfl⟩
  · obtain ⟨l, t, n, f, _, ⟨rfl, _⟩ | ⟨o, g, _, rfl, _⟩⟩ := h <;> rfl
  obtain ⟨l, t, n, f, htn, ⟨rfl, ⟨r, h1, h2⟩, k⟩ | ⟨o, g, ho, rfl, ⟨r, q, h1, h2, h3⟩, k⟩⟩ := h
  · refine ⟨_, (PSs.nox (pss_cons (ps_if (pt_cmpR op_eq (pv 0) pe_str (nomark _)) (pss_one (ps_ret (pe_not (pe_ix (ix_listK K) (pe_ix (ix_listK K) (pv 1) pe_int (fun _ _ => rfl)) (pv 2) (fun _ _ => rfl))))) pss_nil)
      (pss_cons (ps_if (pt_cmpR op_eq (pv 0) pe_str (nomark _)) (pss_one (ps_ret (pe_and (pe_ix (ix_listK K) (pe_ix (ix_listK K) (pv 1) pe_int (fun _ _ => rfl)) (pv 2) (fun _ _ => rfl)) (pe_one (pe_ix (ix_listK K) (pe_ix (ix_listK K) (pv 1) pe_int (fun _ _ => rfl)) (pv 2) (fun _ _ => rfl)))))) pss_nil)
      (pss_cons (ps_if (pt_cmpR op_eq (pv 0) pe_str (nomark _)) (pss_one (ps_ret (pe_or (pe_ix (ix_listK K) (pe_ix (ix_listK K) (pv 1) pe_int (fun _ _ => rfl)) (pv 2) (fun _ _ => rfl)) (pe_one (pe_ix (ix_listK K) (pe_ix (ix_listK K) (pv 1) pe_int (fun _ _ => rfl)) (pv 2) (fun _ _ => rfl)))))) pss_nil)
      (pss_cons (ps_if (pt_cmpR op_eq (pv 0) pe_str (nomark _)) (pss_one (ps_ret (pe_or (pe_ix (ix_listK K) (pe_ix (ix_listK K) (pv 1) pe_int (fun _ _ => rfl)) (pv 2) (fun _ _ => rfl)) (pe_one (pe_not (pe_ix (ix_listK K) (pe_ix (ix_listK K) (pv 1) pe_int (fun _ _ => rfl)) (pv 2) (fun _ _ => rfl))))))) pss_nil)
      (pss_one (ps_ret (pe_cmpR op_eq (pe_ix (ix_listK K) (pe_ix (ix_listK K) (pv 1) pe_int (fun _ _ => rfl)) (pv 2) (fun _ _ => rfl)) (pe_ix (ix_listK K) (pe_ix (ix_listK K) (pv 1) pe_int (fun _ _ => rfl)) (pv 2) (fun _ _ => rfl)) (nomark _))))))))), ?_⟩
    walk_at "ga"
    refine l_ixL h2 (row_bl htn) ?_
    walk_at "ga"
    exact k
  · refine ⟨_, (PSs.nox (pss_cons (ps_if (pt_cmpR op_eq (pv 0) pe_str (nomark _)) (pss_one (ps_ret (pe_not (pe_ix (ix_listK K) (pe_ix (ix_listK K) (pv 1) pe_int (fun _ _ => rfl)) (pv 2) (fun _ _ => rfl))))) pss_nil)
      (pss_cons (ps_if (pt_cmpR op_eq (pv 0) pe_str (nomark _)) (pss_one (ps_ret (pe_and (pe_ix (ix_listK K) (pe_ix (ix_listK K) (pv 1) pe_int (fun _ _ => rfl)) (pv 2) (fun _ _ => rfl)) (pe_one (pe_ix (ix_listK K) (pe_ix (ix_listK K) (pv 1) pe_int (fun _ _ => rfl)) (pv 2) (fun _ _ => rfl)))))) pss_nil)
      (pss_cons (ps_if (pt_cmpR op_eq (pv 0) pe_str (nomark _)) (pss_one (ps_ret (pe_or (pe_ix (ix_listK K) (pe_ix (ix_listK K) (pv 1) pe_int (fun _ _ => rfl)) (pv 2) (fun _ _ => rfl)) (pe_one (pe_ix (ix_listK K) (pe_ix (ix_listK K) (pv 1) pe_int (fun _ _ => rfl)) (pv 2) (fun _ _ => rfl)))))) pss_nil)
      (pss_cons (ps_if (pt_cmpR op_eq (pv 0) pe_str (nomark _)) (pss_one (ps_ret (pe_or (pe_ix (ix_listK K) (pe_ix (ix_listK K) (pv 1) pe_int (fun _ _ => rfl)) (pv 2) (fun _ _ => rfl)) (pe_one (pe_not (pe_ix (ix_listK K) (pe_ix (ix_listK K) (pv 1) pe_int (fun _ _ => rfl)) (pv 2) (fun _ _ => rfl))))))) pss_nil)
      (pss_one (ps_ret (pe_cmpR op_eq (pe_ix (ix_listK K) (pe_ix (ix_listK K) (pv 1) pe_int (fun _ _ => rfl)) (pv 2) (fun _ _ => rfl)) (pe_ix (ix_listK K) (pe_ix (ix_listK K) (pv 1) pe_int (fun _ _ => rfl)) (pv 2) (fun _ _ => rfl)) (nomark _))))))))), ?_⟩
    cases o with
    | an =>
      walk_at "ga"
      refine l_ixL h2 (row_bl htn) ?_
      walk_at "go"
      refine l_i2 (fun e => ?_) (fun e => ?_)
      · walk_at "ga"
        refine l_ixL h3 (row_bl htn) ?_
        have k2 : Q (.bl (f t && g t)) H := k
        rw [e, Bool.true_and] at k2
        exact k2
      · have k2 : Q (.bl (f t && g t)) H := k
        rw [e, Bool.false_and] at k2
        exact k2
    | or =>
      walk_at "ga"
      refine l_ixL h2 (row_bl htn) ?_
      walk_at "go"
      refine l_i2 (fun e => ?_) (fun e => ?_)
      · have k2 : Q (.bl (f t || g t)) H := k
        rw [e, Bool.true_or] at k2
        exact k2
      · walk_at "ga"
        refine l_ixL h3 (row_bl htn) ?_
        have k2 : Q (.bl (f t || g t)) H := k
        rw [e, Bool.false_or] at k2
        exact k2
    | th =>
      walk_at "ga"
      refine l_ixL h3 (row_bl htn) ?_
      walk_at "go"
      refine l_i2 (fun e => ?_) (fun e => ?_)
      · have k2 : Q (.bl (g t || !f t)) H := k
        rw [e, Bool.true_or] at k2
        exact k2
      · walk_at "ga"
        refine l_ixL h2 (row_bl htn) ?_
        walk_at "go"
        have k2 : Q (.bl (g t || !f t)) H := k
        rw [e, Bool.false_or] at k2
        exact k2
    | sm =>
      walk_at "ga"
      refine l_ixL h2 (row_bl htn) ?_
      walk_at "ga"
      refine l_ixL h3 (row_bl htn) ?_
      walk_at "go"
      rw [dec_bl]
      exact k
    | si => exact absurd rfl ho
/-- a new list of truth values -/
def NewB (bs : List Bool) (H : Hp) (Q : VK) : Prop := ∀ l H', Same H H' → H l = none → H' l = some (.lst (bs.map V.bl)) → Q (.ref l) H'
theorem NewB.go {bs : List Bool} {H H1 : Hp} {Q : VK} (h : NewB bs H Q) (e : Same H H1) : NewB bs H1 Q := fun l H' e2 hl h2 => h l H' (e.trans e2) (e.free hl) h2
def spPast (K : PySem.W.Frag) : Sp := fun vs H Q _ => ∃ (l : Addr) (n : Nat) (f : Nat → Bool), n ≤ 100000 ∧ ((vs = [.str "before", .ref l] ∧ Rows1 K H l f n ∧ NewB (false :: row f (n - 1)) H Q) ∨
  (vs = [.str "once", .ref l] ∧ Rows1 K H l f n ∧ NewB (row (rowF false fun p t => f t || p) n) H Q) ∨ (vs = [.str "sofar", .ref l] ∧ Rows1 K H l f n ∧ NewB (row (rowF true fun p t => f t && p) n) H Q) ∨
  ∃ g, vs = [.str "since", .ref l] ∧ Rows2 K H l f g n ∧ NewB (row (rowF false fun p t => g t || (f t && p)) n) H Q)
/-- what stands ahead at a turn -/
theorem ahead_at (b : Bool) (stp : Bool → Nat → Bool) : ∀ t : Nat, ∃ p, atI (V.bl b :: (row (rowF b stp) t).map V.bl) (-1) = some (V.bl p) ∧ rowF b stp t = stp p t
  | 0 => ⟨b, atI_last [] (V.bl b), rfl⟩
  | t + 1 => ⟨rowF b stp t, by
    rw [row_succ, List.map_append]
    exact atI_last (V.bl b :: (row (rowF b stp) t).map V.bl) (V.bl (rowF b stp t)), rfl⟩
theorem sc_past_row : FnScope ["head", "rows", "made", "turn", "ahead"] ["head", "rows"] (defScope s_past_row) := ⟨rfl, rfl, rfl, by decide +kernel, rfl, by decide +kernel, by decide +kernel⟩
theorem ok_past_row (D : Hd K mg) : OkG P w K mg base "past_row" ["head", "rows"] 1 (spPast K) := by
  obtain ⟨fd, F⟩ := F_past_row D
  refine ⟨g_past_row D, F.kp, fd, F.ok sc_past_row (fun vs H Q E h => ?_) (fun cdv A outer sS H vs Q E hr h => ?_), F.bindsN fun _ _ _ _ _ _ us hl => match us, hl with | [_, _], _ => rfl⟩
  · obtain ⟨l, n, f, _, ⟨rfl, _⟩ | ⟨rfl, _⟩ | ⟨rfl, _⟩ | ⟨g, rfl, _⟩⟩ := h <;> rfl
  obtain ⟨l, n, f, hn, ⟨rfl, ⟨r, h1, h2⟩, k⟩ | ⟨rfl, ⟨r, h1, h2⟩, k⟩ | ⟨rfl, ⟨r, h1, h2⟩, k⟩ | ⟨g, rfl, ⟨r, q, h1, h2, h3⟩, k⟩⟩ := h
  · refine ⟨_, (PSs.nox (pss_cons (ps_if (pt_cmpR op_eq (pv 0) pe_str (nomark _)) (pss_one (ps_ret (pe_op op_cat (pe_lst (pa_cons pe_bl pa_nil)) (pe_slice (sl_listK K) (pe_ix (ix_listK K) (pv 1) pe_int (fun _ _ => rfl)) po_none (po_some (pe_un un_neg pe_int)))))) pss_nil)
      (pss_cons (ps_set (i := 2) sc_past_row.nd rfl (Or.inl rfl) (pe_lst pa_nil))
      (pss_cons (ps_for PassesOwn.never rfl (pi_range1 (by rfl) (g_range D) (pa_cons (pe_callB (cl_lenK K) (by rfl) (g_len D) (by decide +kernel) (pa_cons (pe_ix (ix_listK K) (pv 1) pe_int (fun _ _ => rfl)) pa_nil)) pa_nil)) (pg_name (i := 3) sc_past_row.nd rfl (Or.inl rfl)) (pss_cons (ps_set (i := 4) sc_past_row.nd rfl (Or.inl rfl) (pe_op op_cat (pe_lst (pa_cons (pe_cmpR op_eq (pv 0) pe_str (nomark _)) pa_nil)) (pv 2)))
      (pss_one (ps_if (pt_cmpR op_eq (pv 0) pe_str (nomark _)) (pss_one (ps_expr (pe_bmK K PySem.F.plainAttrs_list PySem.F.slot_list_append PySem.F.type_list_append mt_append (pv 2) (pa_cons (pe_or (pe_ix (ix_listK K) (pe_ix (ix_listK K) (pv 1) pe_int (fun _ _ => rfl)) (pv 3) (fun _ _ => rfl)) (pe_one (pe_ix (ix_listK K) (pv 4) (pe_un un_neg pe_int) (fun _ _ => rfl)))) pa_nil)))) (pss_one (ps_if (pt_cmpR op_eq (pv 0) pe_str (nomark _)) (pss_one (ps_expr (pe_bmK K PySem.F.plainAttrs_list PySem.F.slot_list_append PySem.F.type_list_append mt_append (pv 2) (pa_cons (pe_and (pe_ix (ix_listK K) (pe_ix (ix_listK K) (pv 1) pe_int (fun _ _ => rfl)) (pv 3) (fun _ _ => rfl)) (pe_one (pe_ix (ix_listK K) (pv 4) (pe_un un_neg pe_int) (fun _ _ => rfl)))) pa_nil)))) (pss_one (ps_expr (pe_bmK K PySem.F.plainAttrs_list PySem.F.slot_list_append PySem.F.type_list_append mt_append (pv 2) (pa_cons (pe_or (pe_ix (ix_listK K) (pe_ix (ix_listK K) (pv 1) pe_int (fun _ _ => rfl)) (pv 3) (fun _ _ => rfl)) (pe_one (pe_and (pe_ix (ix_listK K) (pe_ix (ix_listK K) (pv 1) pe_int (fun _ _ => rfl)) (pv 3) (fun _ _ => rfl)) (pe_one (pe_ix (ix_listK K) (pv 4) (pe_un un_neg pe_int) (fun _ _ => rfl)))))) pa_nil))))))))))
      (pss_one (ps_ret (pv 2))))))), ?_⟩
    walk_at "ga"
    refine l_mkL (by show 1 ≤ sizeLine; decide) fun p H1 e1 hp hm1 => ?_
    walk_at "ga"
    refine l_slLN (e1.seq h2) fun p2 H2 e2 hp2 hm2 => ?_
    have hc : cutV ((row f n).map V.bl) none (some (-1)) = (row f (n - 1)).map V.bl := by
      unfold cutV
      have hl : ((row f n).map V.bl).length = n := by rw [List.length_map, row_len]
      have e1 : HT.sIx ((row f n).map V.bl).length 0 none = 0 := rfl
      have e2 : HT.sIx ((row f n).map V.bl).length ((row f n).map V.bl).length (some (-1)) = n - 1 := by
        rw [hl]
        show (if (-1 : Int) < 0 then ((-1 : Int) + (n : Int)).toNat else min (-1 : Int).toNat n) = n - 1
        rw [if_pos (by decide)]
        omega
      rw [e1, e2, List.drop_zero, Nat.sub_zero, ← List.map_take]
      unfold row
      rw [← List.map_take, List.take_range]
      rw [show min (n - 1) n = n - 1 by omega]
    rw [hc] at hm2
    refine l_catN (e2 _ _ hm1) hm2 (sz (by show 1 + ((row f (n - 1)).map V.bl).length ≤ 1000000; rw [List.length_map, row_len]; omega)) fun p3 H3 e3 hp3 hm3 => ?_
    exact k p3 _ ((e1.trans e2).trans e3) ((e1.trans e2).free hp3) hm3
  · refine ⟨_, (PSs.nox (pss_cons (ps_if (pt_cmpR op_eq (pv 0) pe_str (nomark _)) (pss_one (ps_ret (pe_op op_cat (pe_lst (pa_cons pe_bl pa_nil)) (pe_slice (sl_listK K) (pe_ix (ix_listK K) (pv 1) pe_int (fun _ _ => rfl)) po_none (po_some (pe_un un_neg pe_int)))))) pss_nil)
      (pss_cons (ps_set (i := 2) sc_past_row.nd rfl (Or.inl rfl) (pe_lst pa_nil))
      (pss_cons (ps_for PassesOwn.never rfl (pi_range1 (by rfl) (g_range D) (pa_cons (pe_callB (cl_lenK K) (by rfl) (g_len D) (by decide +kernel) (pa_cons (pe_ix (ix_listK K) (pv 1) pe_int (fun _ _ => rfl)) pa_nil)) pa_nil)) (pg_name (i := 3) sc_past_row.nd rfl (Or.inl rfl)) (pss_cons (ps_set (i := 4) sc_past_row.nd rfl (Or.inl rfl) (pe_op op_cat (pe_lst (pa_cons (pe_cmpR op_eq (pv 0) pe_str (nomark _)) pa_nil)) (pv 2)))
      (pss_one (ps_if (pt_cmpR op_eq (pv 0) pe_str (nomark _)) (pss_one (ps_expr (pe_bmK K PySem.F.plainAttrs_list PySem.F.slot_list_append PySem.F.type_list_append mt_append (pv 2) (pa_cons (pe_or (pe_ix (ix_listK K) (pe_ix (ix_listK K) (pv 1) pe_int (fun _ _ => rfl)) (pv 3) (fun _ _ => rfl)) (pe_one (pe_ix (ix_listK K) (pv 4) (pe_un un_neg pe_int) (fun _ _ => rfl)))) pa_nil)))) (pss_one (ps_if (pt_cmpR op_eq (pv 0) pe_str (nomark _)) (pss_one (ps_expr (pe_bmK K PySem.F.plainAttrs_list PySem.F.slot_list_append PySem.F.type_list_append mt_append (pv 2) (pa_cons (pe_and (pe_ix (ix_listK K) (pe_ix (ix_listK K) (pv 1) pe_int (fun _ _ => rfl)) (pv 3) (fun _ _ => rfl)) (pe_one (pe_ix (ix_listK K) (pv 4) (pe_un un_neg pe_int) (fun _ _ => rfl)))) pa_nil)))) (pss_one (ps_expr (pe_bmK K PySem.F.plainAttrs_list PySem.F.slot_list_append PySem.F.type_list_append mt_append (pv 2) (pa_cons (pe_or (pe_ix (ix_listK K) (pe_ix (ix_listK K) (pv 1) pe_int (fun _ _ => rfl)) (pv 3) (fun _ _ => rfl)) (pe_one (pe_and (pe_ix (ix_listK K) (pe_ix (ix_listK K) (pv 1) pe_int (fun _ _ => rfl)) (pv 3) (fun _ _ => rfl)) (pe_one (pe_ix (ix_listK K) (pv 4) (pe_un un_neg pe_int) (fun _ _ => rfl)))))) pa_nil))))))))))
      (pss_one (ps_ret (pv 2))))))), ?_⟩
    walk_at "ga"
    refine l_mkL0 fun p H0 e0 hp hm0 => ?_
    walk_at "ga"
    rw [List.length_map, row_len]
    refine forR (fun i σ' H' => ∃ z1 z2, σ' = [some (.str "once"), some (.ref l), some (.ref p), z1, z2] ∧ Same H H' ∧ H' p = some (.lst ((row (rowF false (fun p t => f t || p)) i).map V.bl))) (by omega)
      ⟨none, none, rfl, e0, hm0⟩ (fun i σ' H' hi h => ?_) (fun σ' H' h => ?_)
    · obtain ⟨z1, z2, rfl, e1, hm⟩ := h
      have rl : ((row (rowF false (fun p t => f t || p)) i).map V.bl).length = i := by rw [List.length_map, row_len]
      walk_at "ga"
      refine l_mkL (by show 1 ≤ sizeLine; decide) fun p1 H1 e2 hp1 hm1 => ?_
      walk_at "ga"
      refine l_catN hm1 (e2 _ _ hm) (sz (by show 1 + _ ≤ _; rw [rl]; omega)) fun p2 H2 e3 hp2 hm2 => ?_
      have e4 := e2.trans e3
      obtain ⟨pv, hpv, hrow⟩ := ahead_at false (fun p t => f t || p) i
      have hmm := e4 _ _ hm
      have hr1 := (e1.trans e4).seq h1
      have hr2 := (e1.trans e4).seq h2
      walk_at "ga"
      refine ⟨tyv_list (SqL.of hmm), ?_⟩
      have fin : ∀ c : Bool, c = ((fun p t => f t || p)) pv i → ∀ H5, SameBut p H2 H5 → H5 p = some (.lst ((row (rowF false (fun p t => f t || p)) i).map V.bl ++ [.bl c])) → ∃ z1 z2, [some (V.str "once"), some (V.ref l), some (V.ref p), some (V.int (i : Nat)), some (V.ref p2)] = [some (.str "once"), some (.ref l), some (.ref p), z1, z2] ∧ Same H H5 ∧
          H5 p = some (.lst ((row (rowF false (fun p t => f t || p)) (i + 1)).map V.bl)) := fun c hc H5 e5 h5 => by
        refine ⟨_, _, rfl, e5.same (e1.trans e4) hp, ?_⟩
        rw [h5, row_succ, List.map_append, hrow, hc]
        rfl
      walk_at "ga"
      refine l_ixL hr2 (row_bl hi) ?_
      walk_at "ga"
      refine l_i2 (fun e => ?_) (fun e => ?_)
      · walk_at "ga"
        refine l_appN hmm (szl (by rw [rl]; omega)) fun H5 e5 h5 => ?_
        exact fin true (by show true = (f i || pv); rw [e]; rfl) H5 e5 h5
      · walk_at "ga"
        refine l_ixL (SqL.of hm2) hpv ?_
        walk_at "ga"
        refine l_appN hmm (szl (by rw [rl]; omega)) fun H5 e5 h5 => ?_
        exact fin pv (by show pv = (f i || pv); rw [e]; rfl) H5 e5 h5

    · obtain ⟨z1, z2, rfl, e1, hm⟩ := h
      walk_at "go"
      exact k p H' e1 hp hm
  · refine ⟨_, (PSs.nox (pss_cons (ps_if (pt_cmpR op_eq (pv 0) pe_str (nomark _)) (pss_one (ps_ret (pe_op op_cat (pe_lst (pa_cons pe_bl pa_nil)) (pe_slice (sl_listK K) (pe_ix (ix_listK K) (pv 1) pe_int (fun _ _ => rfl)) po_none (po_some (pe_un un_neg pe_int)))))) pss_nil)
      (pss_cons (ps_set (i := 2) sc_past_row.nd rfl (Or.inl rfl) (pe_lst pa_nil))
      (pss_cons (ps_for PassesOwn.never rfl (pi_range1 (by rfl) (g_range D) (pa_cons (pe_callB (cl_lenK K) (by rfl) (g_len D) (by decide +kernel) (pa_cons (pe_ix (ix_listK K) (pv 1) pe_int (fun _ _ => rfl)) pa_nil)) pa_nil)) (pg_name (i := 3) sc_past_row.nd rfl (Or.inl rfl)) (pss_cons (ps_set (i := 4) sc_past_row.nd rfl (Or.inl rfl) (pe_op op_cat (pe_lst (pa_cons (pe_cmpR op_eq (pv 0) pe_str (nomark _)) pa_nil)) (pv 2)))
      (pss_one (ps_if (pt_cmpR op_eq (pv 0) pe_str (nomark _)) (pss_one (ps_expr (pe_bmK K PySem.F.plainAttrs_list PySem.F.slot_list_append PySem.F.type_list_append mt_append (pv 2) (pa_cons (pe_or (pe_ix (ix_listK K) (pe_ix (ix_listK K) (pv 1) pe_int (fun _ _ => rfl)) (pv 3) (fun _ _ => rfl)) (pe_one (pe_ix (ix_listK K) (pv 4) (pe_un un_neg pe_int) (fun _ _ => rfl)))) pa_nil)))) (pss_one (ps_if (pt_cmpR op_eq (pv 0) pe_str (nomark _)) (pss_one (ps_expr (pe_bmK K PySem.F.plainAttrs_list PySem.F.slot_list_append PySem.F.type_list_append mt_append (pv 2) (pa_cons (pe_and (pe_ix (ix_listK K) (pe_ix (ix_listK K) (pv 1) pe_int (fun _ _ => rfl)) (pv 3) (fun _ _ => rfl)) (pe_one (pe_ix (ix_listK K) (pv 4) (pe_un un_neg pe_int) (fun _ _ => rfl)))) pa_nil)))) (pss_one (ps_expr (pe_bmK K PySem.F.plainAttrs_list PySem.F.slot_list_append PySem.F.type_list_append mt_append (pv 2) (pa_cons (pe_or (pe_ix (ix_listK K) (pe_ix (ix_listK K) (pv 1) pe_int (fun _ _ => rfl)) (pv 3) (fun _ _ => rfl)) (pe_one (pe_and (pe_ix (ix_listK K) (pe_ix (ix_listK K) (pv 1) pe_int (fun _ _ => rfl)) (pv 3) (fun _ _ => rfl)) (pe_one (pe_ix (ix_listK K) (pv 4) (pe_un un_neg pe_int) (fun _ _ => rfl)))))) pa_nil))))))))))
      (pss_one (ps_ret (pv 2))))))), ?_⟩
    walk_at "ga"
    refine l_mkL0 fun p H0 e0 hp hm0 => ?_
    walk_at "ga"
    rw [List.length_map, row_len]
    refine forR (fun i σ' H' => ∃ z1 z2, σ' = [some (.str "sofar"), some (.ref l), some (.ref p), z1, z2] ∧ Same H H' ∧ H' p = some (.lst ((row (rowF true (fun p t => f t && p)) i).map V.bl))) (by omega)
      ⟨none, none, rfl, e0, hm0⟩ (fun i σ' H' hi h => ?_) (fun σ' H' h => ?_)
    · obtain ⟨z1, z2, rfl, e1, hm⟩ := h
      have rl : ((row (rowF true (fun p t => f t && p)) i).map V.bl).length = i := by rw [List.length_map, row_len]
      walk_at "ga"
      refine l_mkL (by show 1 ≤ sizeLine; decide) fun p1 H1 e2 hp1 hm1 => ?_
      walk_at "ga"
      refine l_catN hm1 (e2 _ _ hm) (sz (by show 1 + _ ≤ _; rw [rl]; omega)) fun p2 H2 e3 hp2 hm2 => ?_
      have e4 := e2.trans e3
      obtain ⟨pv, hpv, hrow⟩ := ahead_at true (fun p t => f t && p) i
      have hmm := e4 _ _ hm
      have hr1 := (e1.trans e4).seq h1
      have hr2 := (e1.trans e4).seq h2
      walk_at "ga"
      refine ⟨tyv_list (SqL.of hmm), ?_⟩
      have fin : ∀ c : Bool, c = ((fun p t => f t && p)) pv i → ∀ H5, SameBut p H2 H5 → H5 p = some (.lst ((row (rowF true (fun p t => f t && p)) i).map V.bl ++ [.bl c])) → ∃ z1 z2, [some (V.str "sofar"), some (V.ref l), some (V.ref p), some (V.int (i : Nat)), some (V.ref p2)] = [some (.str "sofar"), some (.ref l), some (.ref p), z1, z2] ∧ Same H H5 ∧
          H5 p = some (.lst ((row (rowF true (fun p t => f t && p)) (i + 1)).map V.bl)) := fun c hc H5 e5 h5 => by
        refine ⟨_, _, rfl, e5.same (e1.trans e4) hp, ?_⟩
        rw [h5, row_succ, List.map_append, hrow, hc]
        rfl
      walk_at "ga"
      refine l_ixL hr2 (row_bl hi) ?_
      walk_at "ga"
      refine l_i2 (fun e => ?_) (fun e => ?_)
      · walk_at "ga"
        refine l_ixL (SqL.of hm2) hpv ?_
        walk_at "ga"
        refine l_appN hmm (szl (by rw [rl]; omega)) fun H5 e5 h5 => ?_
        exact fin pv (by show pv = (f i && pv); rw [e]; rfl) H5 e5 h5
      · walk_at "ga"
        refine l_appN hmm (szl (by rw [rl]; omega)) fun H5 e5 h5 => ?_
        exact fin false (by show false = (f i && pv); rw [e]; rfl) H5 e5 h5

    · obtain ⟨z1, z2, rfl, e1, hm⟩ := h
      walk_at "go"
      exact k p H' e1 hp hm
  · refine ⟨_, (PSs.nox (pss_cons (ps_if (pt_cmpR op_eq (pv 0) pe_str (nomark _)) (pss_one (ps_ret (pe_op op_cat (pe_lst (pa_cons pe_bl pa_nil)) (pe_slice (sl_listK K) (pe_ix (ix_listK K) (pv 1) pe_int (fun _ _ => rfl)) po_none (po_some (pe_un un_neg pe_int)))))) pss_nil)
      (pss_cons (ps_set (i := 2) sc_past_row.nd rfl (Or.inl rfl) (pe_lst pa_nil))
      (pss_cons (ps_for PassesOwn.never rfl (pi_range1 (by rfl) (g_range D) (pa_cons (pe_callB (cl_lenK K) (by rfl) (g_len D) (by decide +kernel) (pa_cons (pe_ix (ix_listK K) (pv 1) pe_int (fun _ _ => rfl)) pa_nil)) pa_nil)) (pg_name (i := 3) sc_past_row.nd rfl (Or.inl rfl)) (pss_cons (ps_set (i := 4) sc_past_row.nd rfl (Or.inl rfl) (pe_op op_cat (pe_lst (pa_cons (pe_cmpR op_eq (pv 0) pe_str (nomark _)) pa_nil)) (pv 2)))
      (pss_one (ps_if (pt_cmpR op_eq (pv 0) pe_str (nomark _)) (pss_one (ps_expr (pe_bmK K PySem.F.plainAttrs_list PySem.F.slot_list_append PySem.F.type_list_append mt_append (pv 2) (pa_cons (pe_or (pe_ix (ix_listK K) (pe_ix (ix_listK K) (pv 1) pe_int (fun _ _ => rfl)) (pv 3) (fun _ _ => rfl)) (pe_one (pe_ix (ix_listK K) (pv 4) (pe_un un_neg pe_int) (fun _ _ => rfl)))) pa_nil)))) (pss_one (ps_if (pt_cmpR op_eq (pv 0) pe_str (nomark _)) (pss_one (ps_expr (pe_bmK K PySem.F.plainAttrs_list PySem.F.slot_list_append PySem.F.type_list_append mt_append (pv 2) (pa_cons (pe_and (pe_ix (ix_listK K) (pe_ix (ix_listK K) (pv 1) pe_int (fun _ _ => rfl)) (pv 3) (fun _ _ => rfl)) (pe_one (pe_ix (ix_listK K) (pv 4) (pe_un un_neg pe_int) (fun _ _ => rfl)))) pa_nil)))) (pss_one (ps_expr (pe_bmK K PySem.F.plainAttrs_list PySem.F.slot_list_append PySem.F.type_list_append mt_append (pv 2) (pa_cons (pe_or (pe_ix (ix_listK K) (pe_ix (ix_listK K) (pv 1) pe_int (fun _ _ => rfl)) (pv 3) (fun _ _ => rfl)) (pe_one (pe_and (pe_ix (ix_listK K) (pe_ix (ix_listK K) (pv 1) pe_int (fun _ _ => rfl)) (pv 3) (fun _ _ => rfl)) (pe_one (pe_ix (ix_listK K) (pv 4) (pe_un un_neg pe_int) (fun _ _ => rfl)))))) pa_nil))))))))))
      (pss_one (ps_ret (pv 2))))))), ?_⟩
    walk_at "ga"
    refine l_mkL0 fun p H0 e0 hp hm0 => ?_
    walk_at "ga"
    rw [List.length_map, row_len]
    refine forR (fun i σ' H' => ∃ z1 z2, σ' = [some (.str "since"), some (.ref l), some (.ref p), z1, z2] ∧ Same H H' ∧ H' p = some (.lst ((row (rowF false (fun p t => g t || (f t && p))) i).map V.bl))) (by omega)
      ⟨none, none, rfl, e0, hm0⟩ (fun i σ' H' hi h => ?_) (fun σ' H' h => ?_)
    · obtain ⟨z1, z2, rfl, e1, hm⟩ := h
      have rl : ((row (rowF false (fun p t => g t || (f t && p))) i).map V.bl).length = i := by rw [List.length_map, row_len]
      walk_at "ga"
      refine l_mkL (by show 1 ≤ sizeLine; decide) fun p1 H1 e2 hp1 hm1 => ?_
      walk_at "ga"
      refine l_catN hm1 (e2 _ _ hm) (sz (by show 1 + _ ≤ _; rw [rl]; omega)) fun p2 H2 e3 hp2 hm2 => ?_
      have e4 := e2.trans e3
      obtain ⟨pv, hpv, hrow⟩ := ahead_at false (fun p t => g t || (f t && p)) i
      have hmm := e4 _ _ hm
      have hr1 := (e1.trans e4).seq h1
      have hr2 := (e1.trans e4).seq h2
      have hr3 := (e1.trans e4).seq h3
      walk_at "ga"
      refine ⟨tyv_list (SqL.of hmm), ?_⟩
      have fin : ∀ c : Bool, c = ((fun p t => g t || (f t && p))) pv i → ∀ H5, SameBut p H2 H5 → H5 p = some (.lst ((row (rowF false (fun p t => g t || (f t && p))) i).map V.bl ++ [.bl c])) → ∃ z1 z2, [some (V.str "since"), some (V.ref l), some (V.ref p), some (V.int (i : Nat)), some (V.ref p2)] = [some (.str "since"), some (.ref l), some (.ref p), z1, z2] ∧ Same H H5 ∧
          H5 p = some (.lst ((row (rowF false (fun p t => g t || (f t && p))) (i + 1)).map V.bl)) := fun c hc H5 e5 h5 => by
        refine ⟨_, _, rfl, e5.same (e1.trans e4) hp, ?_⟩
        rw [h5, row_succ, List.map_append, hrow, hc]
        rfl
      walk_at "ga"
      refine l_ixL hr3 (row_bl hi) ?_
      walk_at "ga"
      refine l_i2 (fun e => ?_) (fun e => ?_)
      · walk_at "ga"
        refine l_appN hmm (szl (by rw [rl]; omega)) fun H5 e5 h5 => ?_
        exact fin true (by show true = (g i || (f i && pv)); rw [e]; rfl) H5 e5 h5
      · walk_at "ga"
        refine l_ixL hr2 (row_bl hi) ?_
        walk_at "ga"
        refine l_i2 (fun e2 => ?_) (fun e2 => ?_)
        · walk_at "ga"
          refine l_ixL (SqL.of hm2) hpv ?_
          walk_at "ga"
          refine l_appN hmm (szl (by rw [rl]; omega)) fun H5 e5 h5 => ?_
          exact fin pv (by show pv = (g i || (f i && pv)); rw [e, e2]; rfl) H5 e5 h5
        · walk_at "ga"
          refine l_appN hmm (szl (by rw [rl]; omega)) fun H5 e5 h5 => ?_
          exact fin false (by show false = (g i || (f i && pv)); rw [e, e2]; rfl) H5 e5 h5

    · obtain ⟨z1, z2, rfl, e1, hm⟩ := h
      walk_at "go"
      exact k p H' e1 hp hm
end
section
variable {P : Program} {w : World} {K : PySem.W.Frag} {mg : Str → Option Value} {base : Heap}
/-- a list of settings, as it stands -/
def PlayAt (K : PySem.W.Frag) (H : Hp) (l : Addr) (play : List (List Bool)) : Prop := ∃ ws, SqL K H l ws ∧ TDs K H ws (play.map encB)
theorem PlayAt.same {H H' : Hp} {l : Addr} {play : List (List Bool)} (e : Same H H') (h : PlayAt K H l play) : PlayAt K H' l play := by
  obtain ⟨ws, h1, h2⟩ := h
  exact ⟨ws, e.seq h1, tds_same e h2⟩
def spTruth (K : PySem.W.Frag) (n : Nat) : Sp := fun vs H Q _ => ∃ (a : Addr) (names : List Str) (v : V) (s : Say) (l : Addr) (play : List (List Bool)), vs = [.ref a, v, .ref l] ∧ TupF H a (names.map V.str) ∧ TD K H v s.enc ∧ PlayAt K H l play ∧
  s.ov names ∧ s.dep ≤ n ∧ (∀ st ∈ play, st.length = names.length) ∧ play.length ≤ 100000 ∧ NewB (row (tat names play s) play.length) H Q
theorem cut_take (xs : List V) (n : Nat) : cutV xs none (some (n : Nat)) = xs.take n := by
  unfold cutV
  have e1 : HT.sIx xs.length 0 none = 0 := rfl
  rw [e1, HT.sIx_nat, List.drop_zero, Nat.sub_zero]
  by_cases h : n ≤ xs.length
  · rw [Nat.min_eq_left h]
  · rw [Nat.min_eq_right (by omega), List.take_length, List.take_of_length_le (by omega)]
theorem bf_row (f : Nat → Bool) (n : Nat) : (false :: row f (n - 1)).take n = row (bfF f) n := by
  cases n with
  | zero => rfl
  | succ n =>
    show (false :: row f n).take (n + 1) = _
    rw [List.take_of_length_le (by rw [List.length_cons, row_len]; exact Nat.le_refl _)]
    unfold row
    rw [List.range_succ_eq_map, List.map_cons, List.map_map]
    rfl
theorem sc_truth_row : FnScope ["names", "saying", "play", "setting", "rows", "part", "turn"] ["names", "saying", "play"] (defScope s_truth_row) := ⟨rfl, rfl, rfl, by decide +kernel, rfl, by decide +kernel, by decide +kernel⟩
theorem ok_truth_row0 (D : Hd K mg) : OkG P w K mg base "truth_row" ["names", "saying", "play"] 1 (spTruth K 0) := by
  obtain ⟨fd, F⟩ := F_truth_row D
  refine ⟨g_truth_row D, F.kp, fd, fnOk_none fun vs H Q E h => ?_, F.bindsN fun _ _ _ _ _ _ us hl => match us, hl with | [_, _, _], _ => rfl⟩
  obtain ⟨a, names, v, s, l, play, _, _, _, _, _, h1, _⟩ := h
  have := s.dep_pos
  omega
theorem ok_truth_row1 (D : Hd K mg) {n : Nat} (G_truth_row : OkG P w K mg base "truth_row" ["names", "saying", "play"] (n + 1) (spTruth K n)) : OkG P w K mg base "truth_row" ["names", "saying", "play"] (n + 2) (spTruth K (n + 1)) := by
  have G_parts_of := ok_parts_of (P := P) (w := w) (base := base) D
  have G_past_row := ok_past_row (P := P) (w := w) (base := base) D
  have G_joined := ok_joined (P := P) (w := w) (base := base) D
  obtain ⟨fd, F⟩ := F_truth_row D
  refine ⟨g_truth_row D, F.kp, fd, F.ok sc_truth_row (fun vs H Q E h => ?_) (fun cdv A outer sS H vs Q E hr h => ?_), F.bindsN fun _ _ _ _ _ _ us hl => match us, hl with | [_, _, _], _ => rfl⟩
  · obtain ⟨a, names, v, s, l, play, rfl, _⟩ := h
    rfl
  obtain ⟨a, names, v, s, l, play, rfl, ha, hv, ⟨ws, hl, hws⟩, ho, hd, hst, hz, k⟩ := h
  have hwl : ws.length = play.length := by rw [hws.length, List.length_map]
  have hsz : ∀ (f : Nat → Bool) (i : Nat), i < play.length → ((row f i).map V.bl).length < sizeLine := fun f i hi => szl (by rw [List.length_map, row_len]; omega)
  refine ⟨_, (PSs.nox (pss_cons (ps_if (pt_cmpR op_eq (pe_ix (ix_tupK K) (pv 1) pe_int (fun _ _ => rfl)) pe_str (nomark _)) (pss_one (ps_ret (pe_lc (own := [("setting", 3)]) (g := gName 3) (tt := tYes) (by rfl) sc_truth_row.nd (pi_listK K (pv 2)) (blkOk_by (N := ["names", "saying", "play", "setting", "rows", "part", "turn"]) (sc := defScope s_truth_row) (by decide +kernel)) (fun _ _ _ _ _ => (pg_name (i := 3) sc_truth_row.nd rfl (Or.inl rfl))) (fun _ _ _ _ _ => pts_nil) (fun _ _ _ _ _ => (pe_ix (ix_tupK K) (pv 3) (pe_bmF PySem.F.slot_tuple_index PySem.F.type_tuple_index (mt_tixK K) (pv 0) (pa_cons (pe_ix (ix_tupK K) (pv 1) pe_int (fun _ _ => rfl)) pa_nil)) (fun _ _ => rfl)))))) pss_nil)
      (pss_cons (ps_if (PW.pt (pw_or (pt_cmpR op_eq (pe_ix (ix_tupK K) (pv 1) pe_int (fun _ _ => rfl)) pe_str (nomark _)) (pw_or1 (pt_cmpR op_eq (pe_ix (ix_tupK K) (pv 1) pe_int (fun _ _ => rfl)) pe_str (nomark _))))) (pss_one (ps_ret (pe_lc (own := [("setting", 3)]) (g := gName 3) (tt := tYes) (by rfl) sc_truth_row.nd (pi_listK K (pv 2)) (blkOk_by (N := ["names", "saying", "play", "setting", "rows", "part", "turn"]) (sc := defScope s_truth_row) (by decide +kernel)) (fun _ _ _ _ _ => (pg_name (i := 3) sc_truth_row.nd rfl (Or.inl rfl))) (fun _ _ _ _ _ => pts_nil) (fun _ _ _ _ _ => (pe_cmpR op_eq (pe_ix (ix_tupK K) (pv 1) pe_int (fun _ _ => rfl)) pe_str (nomark _)))))) pss_nil)
      (pss_cons (ps_set (i := 4) sc_truth_row.nd rfl (Or.inr rfl) (pe_lc (own := [("part", 5)]) (g := gName 5) (tt := tYes) (by rfl) sc_truth_row.nd (pi_tupK K (pe_cl G_parts_of hr (pa_cons (pv 1) pa_nil))) (blkOk_by (N := ["names", "saying", "play", "setting", "rows", "part", "turn"]) (sc := defScope s_truth_row) (by decide +kernel)) (fun _ _ _ _ _ => (pg_name (i := 5) sc_truth_row.nd rfl (Or.inl rfl))) (fun _ _ _ _ _ => pts_nil) (fun _ _ _ _ _ => (pe_cl G_truth_row hr (pa_cons (pv 0) (pa_cons (pv 5) (pa_cons (pv 2) pa_nil)))))))
      (pss_cons (ps_if (pt_cmpR (op_inK K) (pe_ix (ix_tupK K) (pv 1) pe_int (fun _ _ => rfl)) (pe_tup (pa_cons pe_str (pa_cons pe_str (pa_cons pe_str (pa_cons pe_str pa_nil))))) (by rfl)) (pss_one (ps_ret (pe_slice (sl_listK K) (pe_cl G_past_row hr (pa_cons (pe_ix (ix_tupK K) (pv 1) pe_int (fun _ _ => rfl)) (pa_cons (pv 4) pa_nil))) po_none (po_some (pe_callB (cl_lenK K) (by rfl) (g_len D) (by decide +kernel) (pa_cons (pv 2) pa_nil)))))) pss_nil)
      (pss_one (ps_ret (pe_lc (own := [("turn", 6)]) (g := gName 6) (tt := tYes) (by rfl) sc_truth_row.nd (pi_range1 (by rfl) (g_range D) (pa_cons (pe_callB (cl_lenK K) (by rfl) (g_len D) (by decide +kernel) (pa_cons (pv 2) pa_nil)) pa_nil)) (blkOk_by (N := ["names", "saying", "play", "setting", "rows", "part", "turn"]) (sc := defScope s_truth_row) (by decide +kernel)) (fun _ _ _ _ _ => (pg_name (i := 6) sc_truth_row.nd rfl (Or.inl rfl))) (fun _ _ _ _ _ => pts_nil) (fun _ _ _ _ _ => (pe_cl G_joined hr (pa_cons (pe_ix (ix_tupK K) (pv 1) pe_int (fun _ _ => rfl)) (pa_cons (pv 4) (pa_cons (pv 6) pa_nil))))))))))))), ?_⟩
  by_cases hlamp : s.head = "lamp"
  · cases s with
    | cst b => exact absurd hlamp (yn.nl b)
    | one o s => exact absurd hlamp (O1.nl o)
    | two o s t => exact absurd hlamp (O2.nl o)
    | lamp z =>
      obtain ⟨b, x, y, rfl, hT, h0, h1⟩ := hv.t2
      cases h0.str_inv
      cases h1.str_inv
      walk_at "ga"
      refine lcL hl (fun i => (row (tat names play (.lamp z)) i).map V.bl) rfl (fun Dd i x H' hD hx e hm => ?_) (fun Dd H' hD e hm => ?_)
      · obtain ⟨d, hd1, hx2⟩ := hws.at hx
        rw [List.getElem?_map] at hd1
        obtain ⟨st, hst1, rfl⟩ := Option.map_eq_some_iff.mp hd1
        obtain ⟨c, rfl, hc⟩ := (td_same e hx2).encB_inv
        have hi := (List.getElem?_eq_some_iff.mp hst1).1
        have hT' := sqt_same e hT
        walk_at "go"
        refine ⟨rfl, ?_⟩
        walk_at "ga"
        refine ⟨⟨_, _, rfl, ha.same e⟩, ?_⟩
        walk_at "ga"
        refine l_tix (sqt_same e ha.sqt) (ixOf_get ho) (fun m hm => ixOf_first hm) ?_
        have hst2 := hst st (List.mem_of_getElem? hst1)
        have hx5 : ixOf z names < st.length := by rw [hst2]; exact ixOf_lt ho
        refine l_ixT hc (atI_nat (v := V.bl (st.getD (ixOf z names) false)) ?_) ?_
        · rw [List.getElem?_map, List.getD_eq_getElem?_getD, List.getElem?_eq_getElem hx5]
          rfl
        · refine lc_put hD e hm (hsz _ _ hi) ?_
          show (row _ (i + 1)).map V.bl = _
          rw [row_succ, List.map_append]
          have : tat names play (.lamp z) i = st.getD (ixOf z names) false := by
            show (play.getD i []).getD (ixOf z names) false = _
            rw [List.getD_eq_getElem?_getD (l := play), hst1]
            rfl
          rw [this]
          rfl
      · rw [hwl] at hm
        exact k Dd H' e hD hm
  by_cases hyn : s.head = "yes" ∨ s.head = "no"
  · cases s with
    | lamp z => exact absurd rfl hlamp
    | one o s => exact absurd hyn (by show ¬ (o.str = "yes" ∨ o.str = "no"); cases o <;> decide +kernel)
    | two o s t => exact absurd hyn (by show ¬ (o.str = "yes" ∨ o.str = "no"); cases o <;> decide +kernel)
    | cst z =>
      obtain ⟨b, x, rfl, hT, h0⟩ := hv.t1
      cases h0.str_inv
      walk_at "go"
      refine l_iF (decide_eq_false (by cases z <;> decide +kernel)) ?_
      walk_at "go"
      have hyes : decide (V.str (yn z) = V.str (Str.ofString "yes")) = z := by cases z <;> decide +kernel
      have fin : ∃ a', V.ref l = .ref a' ∧ (∃ xs, SqL K H a' xs) ∧ LcB (Itl K a') (gName 3) tYes (tOp rEq (tOp (rIxT K) (tVar 1) (tC (V.int 0))) (tC (V.str (Str.ofString "yes")))) [3] [some (.ref a), some (.ref b), some (.ref l), none, none, none, none] H Q := by
        refine lcL hl (fun i => (row (tat names play (.cst z)) i).map V.bl) rfl (fun Dd i x H' hD hx e hm => ?_) (fun Dd H' hD e hm => ?_)
        · have hi := (List.getElem?_eq_some_iff.mp hx).1
          have hT' := sqt_same e hT
          walk_at "go"
          refine ⟨rfl, ?_⟩
          walk_at "ga"
          rw [hyes]
          refine lc_put hD e hm (hsz _ _ (by omega)) ?_
          show (row _ (i + 1)).map V.bl = _
          rw [row_succ, List.map_append]
          rfl
        · rw [hwl] at hm
          exact k Dd H' e hD hm
      rw [hyes]
      refine l_i2 (fun e => ?_) (fun e => ?_)
      · walk_at "ga"
        exact fin
      · walk_at "go"
        refine l_iT (by subst e; decide +kernel) ?_
        walk_at "ga"
        exact fin
  obtain ⟨b, xs0, rfl, hT⟩ := Say.at0 hv
  walk_at "go"
  refine l_iF (dec_str_ne hlamp) ?_
  walk_at "go"
  refine l_iF (dec_str_ne fun e => hyn (.inl e)) ?_
  walk_at "go"
  refine l_iF (dec_str_ne fun e => hyn (.inr e)) ?_
  walk_at "go"
  -- the rows of the parts
  refine ⟨_, s, rfl, hv, fun r H1 e1 hr1 => ?_⟩
  obtain ⟨c, ys, rfl, hTc, hys⟩ := hr1.tup_inv
  have hyl : ys.length = s.parts.length := by rw [hys.length, List.length_map]
  have hp2 : s.parts.length ≤ 2 := by cases s <;> simp [Say.parts]
  refine lcTP hTc (fun Dd i H' => Same H1 H' ∧ ∃ rs : List Addr, H' Dd = some (.lst (rs.map V.ref)) ∧ rs.length = i ∧ ∀ (j : Nat) (r : Addr) (p : Say), rs[j]? = some r → s.parts[j]? = some p → r ≠ Dd ∧ SqL K H' r ((row (tat names play p) play.length).map V.bl))
    (fun Dd hD => ⟨same_new hD, [], upd_same, rfl, fun j r p h => by simp at h⟩) (fun Dd i H' h => sqt_same h.1 hTc) (fun Dd i x H' hD hx h => ?_) (fun Dd H2 hD h => ?_)
  · obtain ⟨e2, rs, hm, hrl, hrs⟩ := h
    obtain ⟨d, hd1, hx2⟩ := hys.at hx
    rw [List.getElem?_map] at hd1
    obtain ⟨p, hp, rfl⟩ := Option.map_eq_some_iff.mp hd1
    have hpm : p ∈ s.parts := List.mem_of_getElem? hp
    have hi := (List.getElem?_eq_some_iff.mp hp).1
    have e3 := e1.trans e2
    walk_at "go"
    refine ⟨rfl, ?_⟩
    walk_at "ga"
    refine ⟨a, names, x, p, l, play, rfl, ha.same e3, td_same e2 hx2, ⟨ws, e3.seq hl, tds_same e3 hws⟩, Say.ov_parts ho hpm, by have := Say.dep_parts hpm; omega, hst, hz, fun l4 H4 e4 hl4 hm4 => ?_⟩
    refine ⟨_, e4 _ _ hm, szl (by rw [List.length_map]; omega), same_mut (e2.trans e4) hD, rs ++ [l4], ?_, ?_, fun j r p' hj hpj => ?_⟩
    · rw [upd_same, List.map_append]
      rfl
    · rw [List.length_append, hrl]
      rfl
    · by_cases hji : j < i
      · rw [List.getElem?_append_left (by omega)] at hj
        obtain ⟨q1, q2⟩ := hrs j r p' hj hpj
        exact ⟨q1, sql_ne q1 (e4.seq q2)⟩
      · have hj2 : j = i := by
          have := (List.getElem?_eq_some_iff.mp hj).1
          rw [List.length_append, hrl] at this
          have h1 : ([l4] : List Addr).length = 1 := rfl
          omega
        subst hj2
        rw [List.getElem?_append_right (by omega), hrl, Nat.sub_self] at hj
        have e5 : l4 = r := Option.some.inj hj
        subst e5
        rw [hp] at hpj
        cases hpj
        have ne := (ne_of_none hm hl4).symm
        exact ⟨ne, sql_ne ne (SqL.of hm4)⟩
  obtain ⟨e2, rs, hm, hrl, hrs⟩ := h
  have e02 : Same H H2 := e1.trans e2
  have hT2 := sqt_same e02 hT
  walk_at "ga"
  -- which of the past pieces
  refine l_mkT (by show 4 ≤ sizeLine; decide) fun p4 H3 e3 hp4 hm4 => ?_
  have hT3 := sqt_same e3 hT2
  have hm3 := e3 _ _ hm
  have e03 := e02.trans e3
  refine l_inTs (ns := PST) (SqT.of hm4) ?_
  walk_at "go"
  rw [Say.past_head]
  have hrows1 : ∀ (o : O1) (q : Say), s = .one o q → Rows1 K H3 Dd (tat names play q) play.length := by
    rintro o q rfl
    match rs, hrl, hrs, hm3 with
    | [r], _, hrs, hm3 => exact ⟨r, SqL.of hm3, e3.seq (hrs 0 r q rfl rfl).2⟩
    | [], hrl, _, _ => rw [hyl] at hrl; exact absurd hrl (by simp [Say.parts])
    | _ :: _ :: _, hrl, _, _ => rw [hyl] at hrl; exact absurd hrl (by simp [Say.parts])
  have hrows2 : ∀ (o : O2) (q u : Say), s = .two o q u → Rows2 K H3 Dd (tat names play q) (tat names play u) play.length := by
    rintro o q u rfl
    match rs, hrl, hrs, hm3 with
    | [r, r2], _, hrs, hm3 => exact ⟨r, r2, SqL.of hm3, e3.seq (hrs 0 r q rfl rfl).2, e3.seq (hrs 1 r2 u rfl rfl).2⟩
    | [], hrl, _, _ => rw [hyl] at hrl; exact absurd hrl (by simp [Say.parts])
    | [_], hrl, _, _ => rw [hyl] at hrl; exact absurd hrl (by simp [Say.parts])
    | _ :: _ :: _ :: _, hrl, _, _ => rw [hyl] at hrl; exact absurd hrl (by simp [Say.parts])
  refine l_i2 (fun hp => ?_) (fun hp => ?_)
  · walk_at "ga"
    have last : ∀ (bs : List Bool), bs.take play.length = row (tat names play s) play.length → ∀ l5 H5, Same H3 H5 → H3 l5 = none → H5 l5 = some (.lst (bs.map V.bl)) →
        tSl (rSlL K) (fun σ H Q => Q (V.ref l5) H) tNoPart (tPart (tCB (rLen K) (tCons (tVar 2) tNil))) [some (.ref a), some (.ref b), some (.ref l), none, some (.ref Dd), none, none] H5 Q := fun bs hbs l5 H5 e5 hl5 hm5 => by
      have hl6 := (e03.trans e5).seq hl
      walk_at "ga"
      refine l_slLN (SqL.of hm5) fun l6 H6 e6 hn6 hm6 => ?_
      rw [hwl, cut_take, ← List.map_take, hbs] at hm6
      exact k l6 H6 ((e03.trans e5).trans e6) ((e03.trans e5).free hn6) hm6
    have rt : ∀ f : Nat → Bool, (row f play.length).take play.length = row f play.length := fun f => List.take_of_length_le (by rw [row_len]; exact Nat.le_refl _)
    cases s with
    | lamp z => exact absurd rfl hlamp
    | cst z => cases hp
    | one o q =>
      have hR := hrows1 o q rfl
      cases o with
      | nt => cases hp
      | bf => exact ⟨Dd, play.length, _, hz, .inl ⟨rfl, hR, fun l5 H5 e5 hl5 hm5 => last _ (bf_row _ _) l5 H5 e5 hl5 hm5⟩⟩
      | on => exact ⟨Dd, play.length, _, hz, .inr (.inl ⟨rfl, hR, fun l5 H5 e5 hl5 hm5 => last _ (rt _) l5 H5 e5 hl5 hm5⟩)⟩
      | sf => exact ⟨Dd, play.length, _, hz, .inr (.inr (.inl ⟨rfl, hR, fun l5 H5 e5 hl5 hm5 => last _ (rt _) l5 H5 e5 hl5 hm5⟩))⟩
    | two o q u =>
      have hR := hrows2 o q u rfl
      cases o with
      | si => exact ⟨Dd, play.length, _, hz, .inr (.inr (.inr ⟨_, rfl, hR, fun l5 H5 e5 hl5 hm5 => last _ (rt _) l5 H5 e5 hl5 hm5⟩))⟩
      | _ => cases hp
  · walk_at "ga"
    have hl3 := e03.seq hl
    rw [hwl]
    refine lcR (fun i => (row (tat names play s) i).map V.bl) rfl (by omega) (fun D2 i H' hD2 hi e hm' => ?_) (fun D2 H' hD2 e hm' => ?_)
    · have hT' := sqt_same e hT3
      walk_at "go"
      refine ⟨rfl, ?_⟩
      walk_at "ga"
      have fin : ∀ b : Bool, b = tat names play s i → ∃ acc, H' D2 = some (.lst acc) ∧ acc.length < sizeLine ∧ LcP H3 D2 (fun i => (row (tat names play s) i).map V.bl) (i + 1) (upd H' D2 (.lst (acc ++ [.bl b]))) := fun c hc => by
        refine lc_put hD2 e hm' (hsz _ _ hi) ?_
        show (row _ (i + 1)).map V.bl = _
        rw [row_succ, List.map_append, hc]
        rfl
      cases s with
      | lamp z => exact absurd rfl hlamp
      | cst z => exact absurd (show yn z = "yes" ∨ yn z = "no" by cases z <;> decide +kernel) hyn
      | one o q =>
        cases o with
        | nt => exact ⟨Dd, i, play.length, tat names play q, hi, .inl ⟨rfl, (hrows1 _ q rfl).same e, fin _ rfl⟩⟩
        | _ => cases hp
      | two o q u =>
        have hR2 := (hrows2 _ q u rfl).same e
        cases o with
        | si => cases hp
        | an => exact ⟨Dd, i, play.length, tat names play q, hi, .inr ⟨.an, tat names play u, by decide, rfl, hR2, fin _ rfl⟩⟩
        | or => exact ⟨Dd, i, play.length, tat names play q, hi, .inr ⟨.or, tat names play u, by decide, rfl, hR2, fin _ rfl⟩⟩
        | th => exact ⟨Dd, i, play.length, tat names play q, hi, .inr ⟨.th, tat names play u, by decide, rfl, hR2, fin _ rfl⟩⟩
        | sm => exact ⟨Dd, i, play.length, tat names play q, hi, .inr ⟨.sm, tat names play u, by decide, rfl, hR2, fin _ rfl⟩⟩
    · exact k D2 H' (e03.trans e) (e03.free hD2) hm'
theorem ok_truth_row (D : Hd K mg) : ∀ n, OkG P w K mg base "truth_row" ["names", "saying", "play"] (n + 1) (spTruth K n)
  | 0 => ok_truth_row0 D
  | n + 1 => ok_truth_row1 D (ok_truth_row D n)
end
section
variable {P : Program} {w : World} {K : PySem.W.Frag} {mg : Str → Option Value} {base : Heap}
/-! ### first_without, where all holds -/
def spFW (K : PySem.W.Frag) : Sp := fun vs H Q _ => ∃ (a : Addr) (names : List Str) (v : V) (ss : List Say) (l : Addr) (play : List (List Bool)), vs = [.ref a, v, .ref l] ∧ TupF H a (names.map V.str) ∧ TD K H v (encSays ss) ∧ PlayAt K H l play ∧
  (∀ s ∈ ss, s.ov names ∧ s.dep ≤ 8) ∧ ss.length ≤ 100 ∧ (∀ st ∈ play, st.length = names.length) ∧ play.length ≤ 100000 ∧ (∀ s ∈ ss, ∀ t, t < play.length → tat names play s t = true) ∧ ∀ H', Same H H' → Q .non H'
theorem sc_first_without : FnScope ["names", "sayings", "play", "rows", "saying", "turn", "row"] ["names", "sayings", "play"] (defScope s_first_without) := ⟨rfl, rfl, rfl, by decide +kernel, rfl, by decide +kernel, by decide +kernel⟩
theorem ok_first_without (D : Hd K mg) : OkG P w K mg base "first_without" ["names", "sayings", "play"] 10 (spFW K) := by
  have G_truth_row := ok_truth_row (P := P) (w := w) (base := base) D 8
  obtain ⟨fd, F⟩ := F_first_without D
  refine ⟨g_first_without D, F.kp, fd, F.ok sc_first_without (fun vs H Q E h => ?_) (fun cdv A outer sS H vs Q E hr h => ?_), F.bindsN fun _ _ _ _ _ _ us hl => match us, hl with | [_, _, _], _ => rfl⟩
  · obtain ⟨a, names, v, ss, l, play, rfl, _⟩ := h
    rfl
  obtain ⟨a, names, v, ss, l, play, rfl, ha, hv, hP, ho, hs, hst, hz, hh, k⟩ := h
  obtain ⟨b, xs, rfl, hT, hxs⟩ := hv.tup_inv
  have hxl : xs.length = ss.length := by rw [hxs.length, List.length_map]
  refine ⟨_, (PSs.nox (pss_cons (ps_setLc (i := 3) (own := [("saying", 4)]) (g := gName 4) (tt := tYes) (by rfl) sc_first_without.nd rfl rfl (sw_true rfl rfl rfl (by decide +kernel)) (pi_tupK K (pv 1)) (blkOk_by (N := ["names", "sayings", "play", "rows", "saying", "turn", "row"]) (sc := defScope s_first_without) (by decide +kernel)) (fun _ _ _ _ _ => (pg_name (i := 4) sc_first_without.nd rfl (Or.inl rfl))) (fun _ _ _ _ _ => pts_nil) (fun _ _ _ _ _ => (pe_cl G_truth_row hr (pa_cons (pv 0) (pa_cons (pv 4) (pa_cons (pv 2) pa_nil))))))
      (pss_cons (ps_for PassesOwn.never rfl (pi_range1 (by rfl) (g_range D) (pa_cons (pe_callB (cl_lenK K) (by rfl) (g_len D) (by decide +kernel) (pa_cons (pv 2) pa_nil)) pa_nil)) (pg_name (i := 5) sc_first_without.nd rfl (Or.inr rfl)) (pss_one (ps_if (pt_not (pt_val (pe_callB (cr_allK K rfl) (by rfl) (g_all D) (by decide +kernel) (pa_cons (pe_lc (own := [("row", 6)]) (g := gName 6) (tt := tYes) (by rfl) sc_first_without.nd (pi_listK K (pv 3)) (blkOk_by (N := ["names", "sayings", "play", "rows", "saying", "turn", "row"]) (sc := defScope s_first_without) (by decide +kernel)) (fun _ _ _ _ _ => (pg_name (i := 6) sc_first_without.nd rfl (Or.inl rfl))) (fun _ _ _ _ _ => pts_nil) (fun _ _ _ _ _ => (pe_ix (ix_listK K) (pv 6) (pv 5) (fun _ _ => rfl)))) pa_nil)))) (pss_one (ps_ret (pv 5))) pss_nil)))
      (pss_one (ps_ret pe_non))))), ?_⟩
  walk_at "ga"
  refine lcTP hT (fun Dd i H' => Same H H' ∧ ∃ rs : List Addr, H' Dd = some (.lst (rs.map V.ref)) ∧ rs.length = i ∧ ∀ (j : Nat) (r : Addr), rs[j]? = some r → r ≠ Dd ∧ ∃ s ∈ ss, SqL K H' r ((row (tat names play s) play.length).map V.bl))
    (fun Dd hD => ⟨same_new hD, [], upd_same, rfl, fun j r h => by simp at h⟩) (fun Dd i H' h => sqt_same h.1 hT) (fun Dd i x H' hD hx h => ?_) (fun Dd H2 hD h => ?_)
  · obtain ⟨e2, rs, hm, hrl, hrs⟩ := h
    obtain ⟨d, hd1, hx2⟩ := hxs.at hx
    rw [List.getElem?_map] at hd1
    obtain ⟨p, hp, rfl⟩ := Option.map_eq_some_iff.mp hd1
    have hpm : p ∈ ss := List.mem_of_getElem? hp
    have hi := (List.getElem?_eq_some_iff.mp hp).1
    walk_at "go"
    refine ⟨rfl, ?_⟩
    walk_at "ga"
    refine ⟨a, names, x, p, l, play, rfl, ha.same e2, td_same e2 hx2, hP.same e2, (ho p hpm).1, (ho p hpm).2, hst, hz, fun l4 H4 e4 hl4 hm4 => ?_⟩
    refine ⟨_, e4 _ _ hm, szl (by rw [List.length_map]; omega), same_mut (e2.trans e4) hD, rs ++ [l4], ?_, ?_, fun j r hj => ?_⟩
    · rw [upd_same, List.map_append]
      rfl
    · rw [List.length_append, hrl]
      rfl
    · by_cases hji : j < i
      · rw [List.getElem?_append_left (by omega)] at hj
        obtain ⟨q1, s, q2, q3⟩ := hrs j r hj
        exact ⟨q1, s, q2, sql_ne q1 (e4.seq q3)⟩
      · have hj2 : j = i := by
          have := (List.getElem?_eq_some_iff.mp hj).1
          rw [List.length_append, hrl] at this
          have h1 : ([l4] : List Addr).length = 1 := rfl
          omega
        subst hj2
        rw [List.getElem?_append_right (by omega), hrl, Nat.sub_self] at hj
        have e5 : l4 = r := Option.some.inj hj
        subst e5
        have ne := (ne_of_none hm hl4).symm
        exact ⟨ne, p, hpm, sql_ne ne (SqL.of hm4)⟩
  obtain ⟨e2, rs, hm, hrl, hrs⟩ := h
  obtain ⟨ws, hl, hws⟩ := hP.same e2
  have hwl : ws.length = play.length := by rw [hws.length, List.length_map]
  walk_at "ga"
  rw [hwl]
  refine forR (fun i σ' H' => ∃ z, σ' = [some (.ref a), some (.ref b), some (.ref l), some (.ref Dd), none, z, none] ∧ Same H2 H') (by omega) ⟨_, rfl, Same.refl H2⟩ (fun i σ' H' hi h => ?_) (fun σ' H' h => ?_)
  · obtain ⟨z, rfl, e3⟩ := h
    have hm3 := e3 _ _ hm
    walk_at "ga"
    refine lcL (SqL.of hm3) (fun j => List.replicate j (V.bl true)) rfl (fun D2 j x H4 hD2 hx e4 hm4 => ?_) (fun D2 H4 hD2 e4 hm4 => ?_)
    · rw [List.getElem?_map] at hx
      obtain ⟨r, hr', rfl⟩ := Option.map_eq_some_iff.mp hx
      have hj := (List.getElem?_eq_some_iff.mp hr').1
      obtain ⟨_, s, hs1, hs2⟩ := hrs j r hr'
      have hs3 := (e3.trans e4).seq hs2
      walk_at "go"
      refine ⟨rfl, ?_⟩
      walk_at "ga"
      refine l_ixL hs3 (row_bl hi) ?_
      rw [hh s hs1 i hi]
      exact lc_put hD2 e4 hm4 (szl (by rw [List.length_replicate]; omega)) (by rw [List.replicate_succ'])
    · walk_at "go"
      refine l_all (bs := List.replicate _ true) (by rw [← replicate_bl]; exact SqL.of hm4) ?_
      rw [all_rep]
      walk_at "ga"
      exact ⟨_, rfl, e3.trans e4⟩
  · obtain ⟨z, rfl, e3⟩ := h
    walk_at "ga"
    exact k H' (e2.trans e3)
/-! ### first_breaks, where nothing is broken -/
def spFB (K : PySem.W.Frag) : Sp := fun vs H Q _ => ∃ (v : V) (b : Book) (l : Addr) (ws : List V) (play : List (List Bool)), vs = [v, .ref l] ∧ TD K H v b.enc ∧ b.Ok ∧ H l = some (.lst ws) ∧ TDs K H ws (play.map encB) ∧
  (∀ st ∈ play, st.length = b.names.length) ∧ play.length ≤ 100000 ∧ (∀ s ∈ b.proms ++ b.musts, ∀ t, t < play.length → tat b.names play s t = true) ∧ ∀ r H', Same H H' → TD K H' r (.tuple [.none, .none]) → Q r H'
theorem names_nil {ns : List Str} (h : 1 ≤ ns.length) : ns.map V.str ≠ [] := by
  intro z
  have := congrArg List.length z
  rw [List.length_map] at this
  rw [this] at h
  exact absurd h (by decide)
theorem sc_first_breaks : FnScope ["book", "play", "names"] ["book", "play"] (defScope s_first_breaks) := ⟨rfl, rfl, rfl, by decide +kernel, rfl, by decide +kernel, by decide +kernel⟩
theorem ok_first_breaks (D : Hd K mg) : OkG P w K mg base "first_breaks" ["book", "play"] 14 (spFB K) := by
  have G_checked := ok_checked (P := P) (w := w) (base := base) D
  have G_need_play := ok_need_play (P := P) (w := w) (base := base) D
  have G_first_without := ok_first_without (P := P) (w := w) (base := base) D
  obtain ⟨fd, F⟩ := F_first_breaks D
  refine ⟨g_first_breaks D, F.kp, fd, F.ok sc_first_breaks (fun vs H Q E h => ?_) (fun cdv A outer sS H vs Q E hr h => ?_), F.bindsN fun _ _ _ _ _ _ us hl => match us, hl with | [_, _], _ => rfl⟩
  · obtain ⟨v, b, l, ws, play, rfl, _⟩ := h
    rfl
  obtain ⟨v, b, l, ws, play, rfl, hv, hb, hl, hws, hst, hz, hh, k⟩ := h
  have nl : b.names.length ≤ 4 := by unfold Book.names; rw [List.length_append]; have := hb.foe2; have := hb.fr2; omega
  obtain ⟨a, x1, x2, x3, x4, x5, rfl, hT, h1, h2, h3, h4, h5⟩ := id hv.t5
  refine ⟨_, (PSs.nox (pss_cons (ps_expr (pe_cl G_checked hr (pa_cons (pv 0) pa_nil)))
      (pss_cons (ps_expr (pe_cl G_need_play hr (pa_cons (pv 0) (pa_cons (pv 1) pa_nil))))
      (pss_cons (ps_set (i := 2) sc_first_breaks.nd rfl (Or.inl rfl) (pe_op (op_catFK K) (pe_ix (ix_tupK K) (pv 0) pe_int (fun _ _ => rfl)) (pe_ix (ix_tupK K) (pv 0) pe_int (fun _ _ => rfl))))
      (pss_one (ps_ret (pe_tup (pa_cons (pe_cl G_first_without hr (pa_cons (pv 2) (pa_cons (pe_ix (ix_tupK K) (pv 0) pe_int (fun _ _ => rfl)) (pa_cons (pv 1) pa_nil)))) (pa_cons (pe_cl G_first_without hr (pa_cons (pv 2) (pa_cons (pe_ix (ix_tupK K) (pv 0) pe_int (fun _ _ => rfl)) (pa_cons (pv 1) pa_nil)))) pa_nil))))))))), ?_⟩
  walk_at "ga"
  refine ⟨_, b, rfl, hv, hb, fun H1 e1 => ?_⟩
  walk_at "ga"
  refine ⟨_, b, l, ws, play, rfl, td_same e1 hv, by omega, e1 _ _ hl, tds_same e1 hws, hst, hz, fun H2 e2 => ?_⟩
  have e02 := e1.trans e2
  obtain ⟨a1, y1, rfl, hT1, hs1⟩ := h1.tup_inv
  cases hs1.strs_inv
  obtain ⟨a2, y2, rfl, hT2, hs2⟩ := h2.tup_inv
  cases hs2.strs_inv
  walk_at "ga"
  have hf2 := hb.foe2
  have hr2 := hb.fr2
  refine l_catF (sqt_same e02 hT1) (sqt_same e02 hT2) (names_nil hb.foe1) (names_nil hb.fr1) (sz (by rw [List.length_map, List.length_map]; omega)) fun p o hp ho => ?_
  have e3 : Same H2 (upd H2 p (.frz o (.tup (b.foe.map V.str ++ b.fr.map V.str)))) := same_new hp
  have hN : TupF (upd H2 p (.frz o (.tup (b.foe.map V.str ++ b.fr.map V.str)))) p (b.names.map V.str) := ⟨o, ho, by unfold Book.names; rw [List.map_append]; exact upd_same⟩
  revert hN e3
  generalize upd H2 p (.frz o (.tup (b.foe.map V.str ++ b.fr.map V.str))) = H3
  intro e3 hN
  have e03 := e02.trans e3
  walk_at "ga"
  refine ⟨p, b.names, x3, b.proms, l, play, rfl, hN, td_same e03 h3, ⟨ws, SqL.of (e03 _ _ hl), tds_same e03 hws⟩, fun s hs => hb.ov s (Book.proms_says s hs), by have := hb.p3; omega, hst, hz, fun s hs => hh s (List.mem_append_left _ hs), fun H4 e4 => ?_⟩
  have e04 := e03.trans e4
  walk_at "ga"
  refine ⟨p, b.names, x4, b.musts, l, play, rfl, hN.same e4, td_same e04 h4, ⟨ws, SqL.of (e04 _ _ hl), tds_same e04 hws⟩, fun s hs => hb.ov s (Book.musts_says s hs), by have := hb.m3; omega, hst, hz, fun s hs => hh s (List.mem_append_right _ hs), fun H5 e5 => ?_⟩
  walk_at "ga"
  refine l_mkT (by show 2 ≤ sizeLine; decide) fun p5 H6 e6 hp5 hm5 => ?_
  exact k _ H6 ((e04.trans e5).trans e6) (.tup (SqT.of hm5) (.two .non .non))
/-! ### losses -/
def lossAt (names : List Str) (play : List (List Bool)) (ws : List (Int × Say)) (t : Nat) : Int := ((ws.filter fun p => !tat names play p.2 t).map (·.1)).sum
def spLosses (K : PySem.W.Frag) : Sp := fun vs H Q _ => ∃ (v : V) (b : Book) (l : Addr) (ws : List V) (play : List (List Bool)), vs = [v, .ref l] ∧ TD K H v b.enc ∧ b.Ok ∧ H l = some (.lst ws) ∧ TDs K H ws (play.map encB) ∧
  (∀ st ∈ play, st.length = b.names.length) ∧ play.length ≤ 100000 ∧ ∀ r H', Same H H' → H r = none → H' r = some (.lst (((List.range play.length).map (lossAt b.names play b.wishes)).map V.int)) → Q (.ref r) H'
theorem filt_take {α β : Type} (f : α → Bool) (g : α → β) {l : List α} {i : Nat} {x : α} (h : l[i]? = some x) : ((l.take (i + 1)).filter f).map g = ((l.take i).filter f).map g ++ (if f x = true then [g x] else []) := by
  rw [take_get h, List.filter_append, List.map_append, List.filter_cons, List.filter_nil]
  split <;> rfl
theorem sc_losses : FnScope ["book", "play", "rows", "price", "saying", "made", "turn", "row"] ["book", "play"] (defScope s_losses) := ⟨rfl, rfl, rfl, by decide +kernel, rfl, by decide +kernel, by decide +kernel⟩
theorem ok_losses (D : Hd K mg) : OkG P w K mg base "losses" ["book", "play"] 14 (spLosses K) := by
  have G_checked := ok_checked (P := P) (w := w) (base := base) D
  have G_need_play := ok_need_play (P := P) (w := w) (base := base) D
  have G_truth_row := ok_truth_row (P := P) (w := w) (base := base) D 8
  obtain ⟨fd, F⟩ := F_losses D
  refine ⟨g_losses D, F.kp, fd, F.ok sc_losses (fun vs H Q E h => ?_) (fun cdv A outer sS H vs Q E hr h => ?_), F.bindsN fun _ _ _ _ _ _ us hl => match us, hl with | [_, _], _ => rfl⟩
  · obtain ⟨v, b, l, ws, play, rfl, _⟩ := h
    rfl
  obtain ⟨v, b, l, ws, play, rfl, hv, hb, hl, hws, hst, hz, k⟩ := h
  have nl : b.names.length ≤ 4 := by unfold Book.names; rw [List.length_append]; have := hb.foe2; have := hb.fr2; omega
  obtain ⟨a, x1, x2, x3, x4, x5, rfl, hT, h1, h2, h3, h4, h5⟩ := id hv.t5
  have hwl : ws.length = play.length := by rw [hws.length, List.length_map]
  have hw5 := hb.w5
  refine ⟨_, (PSs.nox (pss_cons (ps_expr (pe_cl G_checked hr (pa_cons (pv 0) pa_nil)))
      (pss_cons (ps_expr (pe_cl G_need_play hr (pa_cons (pv 0) (pa_cons (pv 1) pa_nil))))
      (pss_cons (ps_setLc (i := 2) (own := [("price", 3), ("saying", 4)]) (tt := tYes) (by rfl) sc_losses.nd rfl rfl (sw_true rfl rfl rfl (by decide +kernel)) (pi_tupK K (pe_ix (ix_tupK K) (pv 0) pe_int (fun _ _ => rfl))) (blkOk_by (N := ["book", "play", "rows", "price", "saying", "made", "turn", "row"]) (sc := defScope s_losses) (by decide +kernel)) (fun _ _ _ _ _ => (pg_tupK K (n := 2) rfl (pgs_cons (pg_name (i := 3) sc_losses.nd rfl (Or.inl rfl)) (pgs_cons (pg_name (i := 4) sc_losses.nd rfl (Or.inl rfl)) pgs_nil)))) (fun _ _ _ _ _ => pts_nil) (fun _ _ _ _ _ => (pe_tup (pa_cons (pv 3) (pa_cons (pe_cl G_truth_row hr (pa_cons (pe_op (op_catFK K) (pe_ix (ix_tupK K) (pv 0) pe_int (fun _ _ => rfl)) (pe_ix (ix_tupK K) (pv 0) pe_int (fun _ _ => rfl))) (pa_cons (pv 4) (pa_cons (pv 1) pa_nil)))) pa_nil)))))
      (pss_cons (ps_set (i := 5) sc_losses.nd rfl (Or.inl rfl) (pe_lst pa_nil))
      (pss_cons (ps_for PassesOwn.never rfl (pi_range1 (by rfl) (g_range D) (pa_cons (pe_callB (cl_lenK K) (by rfl) (g_len D) (by decide +kernel) (pa_cons (pv 1) pa_nil)) pa_nil)) (pg_name (i := 6) sc_losses.nd rfl (Or.inr rfl)) (pss_one (ps_expr (pe_bmK K PySem.F.plainAttrs_list PySem.F.slot_list_append PySem.F.type_list_append mt_append (pv 5) (pa_cons (pe_callB (cr_sumK K rfl) (by rfl) (g_sum D) (by decide +kernel) (pa_cons (pe_lc (own := [("price", 3), ("row", 7)]) (by rfl) sc_losses.nd (pi_listK K (pv 2)) (blkOk_by (N := ["book", "play", "rows", "price", "saying", "made", "turn", "row"]) (sc := defScope s_losses) (by decide +kernel)) (fun _ _ _ _ _ => (pg_tupK K (n := 2) rfl (pgs_cons (pg_name (i := 3) sc_losses.nd rfl (Or.inl rfl)) (pgs_cons (pg_name (i := 7) sc_losses.nd rfl (Or.inl rfl)) pgs_nil)))) (fun _ _ _ _ _ => (pts_one (pt_not (pt_val (pe_ix (ix_listK K) (pv 7) (pv 6) (fun _ _ => rfl)))))) (fun _ _ _ _ _ => (pv 3))) pa_nil)) pa_nil)))))
      (pss_one (ps_ret (pv 5))))))))), ?_⟩
  walk_at "ga"
  refine ⟨_, b, rfl, hv, hb, fun H1 e1 => ?_⟩
  walk_at "ga"
  refine ⟨_, b, l, ws, play, rfl, td_same e1 hv, by omega, e1 _ _ hl, tds_same e1 hws, hst, hz, fun H2 e2 => ?_⟩
  have e02 := e1.trans e2
  obtain ⟨a1, y1, rfl, hT1, hs1⟩ := h1.tup_inv
  cases hs1.strs_inv
  obtain ⟨a2, y2, rfl, hT2, hs2⟩ := h2.tup_inv
  cases hs2.strs_inv
  obtain ⟨a5, y5, rfl, hT5, hs5⟩ := h5.tup_inv
  have hyl : y5.length = b.wishes.length := by rw [hs5.length, List.length_map]
  have hTa := sqt_same e02 hT
  walk_at "ga"
  have hf2 := hb.foe2
  have hr2 := hb.fr2
  refine lcTP (sqt_same e02 hT5) (fun Dd i H' => Same H2 H' ∧ ∃ rs : List Addr, H' Dd = some (.lst (rs.map V.ref)) ∧ rs.length = i ∧ ∀ (j : Nat) (r : Addr) (q : Int × Say), rs[j]? = some r → b.wishes[j]? = some q → r ≠ Dd ∧ ∃ c, c ≠ Dd ∧ SqT K H' r [.int q.1, .ref c] ∧ SqL K H' c ((row (tat b.names play q.2) play.length).map V.bl))
    (fun Dd hD => ⟨same_new hD, [], upd_same, rfl, fun j r q h => by simp at h⟩) (fun Dd i H' h => sqt_same (e02.trans h.1) hT5) (fun Dd i x H' hD hx h => ?_) (fun Dd H3 hD h => ?_)
  · obtain ⟨e3, rs, hm, hrl, hrs⟩ := h
    have e03 := e02.trans e3
    obtain ⟨d, hd1, hx2⟩ := hs5.at hx
    rw [List.getElem?_map] at hd1
    obtain ⟨q, hq, rfl⟩ := Option.map_eq_some_iff.mp hd1
    have hqm : q ∈ b.wishes := List.mem_of_getElem? hq
    have hi := (List.getElem?_eq_some_iff.mp hq).1
    obtain ⟨c0, u1, u2, rfl, hc0, hu1, hu2⟩ := (td_same e03 hx2).t2
    cases hu1.int_inv
    have hTa' := sqt_same e03 hT
    have hT1' := sqt_same e03 hT1
    have hT2' := sqt_same e03 hT2
    walk_at "go"
    refine ⟨rfl, ?_⟩
    walk_at "ga"
    refine l_catF hT1' hT2' (names_nil hb.foe1) (names_nil hb.fr1) (sz (by rw [List.length_map, List.length_map]; omega)) fun p o hp ho => ?_
    have e4 : Same H' (upd H' p (.frz o (.tup (b.foe.map V.str ++ b.fr.map V.str)))) := same_new hp
    have hN : TupF (upd H' p (.frz o (.tup (b.foe.map V.str ++ b.fr.map V.str)))) p (b.names.map V.str) := ⟨o, ho, by unfold Book.names; rw [List.map_append]; exact upd_same⟩
    revert hN e4
    generalize upd H' p (.frz o (.tup (b.foe.map V.str ++ b.fr.map V.str))) = H4
    intro e4 hN
    walk_at "ga"
    have hov := hb.ov q.2 (Book.wish_says q hqm)
    refine ⟨p, b.names, u2, q.2, l, play, rfl, hN, td_same e4 hu2, ⟨ws, SqL.of ((e03.trans e4) _ _ hl), tds_same (e03.trans e4) hws⟩, hov.1, hov.2, hst, hz, fun l5 H5 e5 hl5 hm5 => ?_⟩
    walk_at "ga"
    refine l_mkT (by show 2 ≤ sizeLine; decide) fun p6 H6 e6 hp6 hm6 => ?_
    have e46 := (e4.trans e5).trans e6
    have hDm := e46 _ _ hm
    refine ⟨_, hDm, szl (by rw [List.length_map]; omega), same_mut (e3.trans e46) hD, rs ++ [p6], ?_, ?_, fun j r q' hj hqj => ?_⟩
    · rw [upd_same, List.map_append]
      rfl
    · rw [List.length_append, hrl]
      rfl
    · by_cases hji : j < i
      · rw [List.getElem?_append_left (by omega)] at hj
        obtain ⟨n1, c, n2, q2, q3⟩ := hrs j r q' hj hqj
        exact ⟨n1, c, n2, sqt_lst hDm (sqt_same e46 q2), sql_ne n2 (e46.seq q3)⟩
      · have hj2 : j = i := by
          have := (List.getElem?_eq_some_iff.mp hj).1
          rw [List.length_append, hrl] at this
          have h1 : ([p6] : List Addr).length = 1 := rfl
          omega
        subst hj2
        rw [List.getElem?_append_right (by omega), hrl, Nat.sub_self] at hj
        have e7 : p6 = r := Option.some.inj hj
        subst e7
        rw [hq] at hqj
        cases hqj
        have ne1 : p6 ≠ Dd := (ne_of_none ((e4.trans e5) _ _ hm) hp6).symm
        have ne2 : l5 ≠ Dd := (ne_of_none (e4 _ _ hm) hl5).symm
        exact ⟨ne1, l5, ne2, sqt_lst hDm (SqT.of hm6), sql_ne ne2 (SqL.of (e6 _ _ hm5))⟩
  obtain ⟨e3, rs, hm, hrl, hrs⟩ := h
  have e03 := e02.trans e3
  rw [hyl] at hrl
  walk_at "ga"
  refine l_mkL0 fun p4 H4 e4 hp4 hm4 => ?_
  have e04 := e03.trans e4
  have hl4 := e04 _ _ hl
  walk_at "ga"
  rw [hwl]
  refine forR (fun i σ' H' => ∃ z, σ' = [some (.ref a), some (.ref l), some (.ref Dd), none, none, some (.ref p4), z, none] ∧ SameBut p4 H4 H' ∧ H' p4 = some (.lst (((List.range i).map (lossAt b.names play b.wishes)).map V.int))) (by omega)
    ⟨_, rfl, SameBut.refl p4 H4, hm4⟩ (fun i σ' H' hi h => ?_) (fun σ' H' h => ?_)
  · obtain ⟨z, rfl, e5, hm5⟩ := h
    have e35 : Same H3 H' := e5.same e4 hp4
    have hmD := e35 _ _ hm
    walk_at "ga"
    refine ⟨tyv_list (SqL.of hm5), ?_⟩
    walk_at "ga"
    refine lcL (SqL.of hmD) (fun j => (((b.wishes.take j).filter fun p => !tat b.names play p.2 i).map fun p => V.int p.1)) rfl (fun D2 j x H6 hD2 hx e6 hm6 => ?_) (fun D2 H6 hD2 e6 hm6 => ?_)
    · rw [List.getElem?_map] at hx
      obtain ⟨r, hr', rfl⟩ := Option.map_eq_some_iff.mp hx
      have hj := (List.getElem?_eq_some_iff.mp hr').1
      have hgj : b.wishes[j]? = some b.wishes[j] := List.getElem?_eq_getElem (by omega)
      obtain ⟨_, c, _, q2, q3⟩ := hrs j r _ hr' hgj
      have e36 := e35.trans e6
      have hq2 := sqt_same e36 q2
      have hq3 := e36.seq q3
      walk_at "go"
      refine ⟨rfl, ?_⟩
      walk_at "ga"
      refine l_ixL hq3 (row_bl hi) ?_
      walk_at "ga"
      have hlen : ((((b.wishes.take j).filter fun p => !tat b.names play p.2 i).map fun p => V.int p.1)).length < sizeLine := szl (by
        rw [List.length_map]
        have h1 := List.length_filter_le (fun p : Int × Say => !tat b.names play p.2 i) (b.wishes.take j)
        rw [List.length_take] at h1
        omega)
      refine l_i2 (fun e => ?_) (fun e => ?_)
      · walk_at "go"
        refine lc_put hD2 e6 hm6 hlen ?_
        show (((b.wishes.take (j + 1)).filter _).map _) = _
        rw [filt_take _ _ hgj, if_pos e]
      · refine lc_skip e6 hm6 ?_
        show (((b.wishes.take (j + 1)).filter _).map _) = _
        rw [filt_take _ _ hgj, if_neg (by rw [e]; exact Bool.false_ne_true), List.append_nil]
    · walk_at "go"
      rw [List.length_map, hrl, List.take_length] at hm6
      refine l_sum (ns := (b.wishes.filter fun p => !tat b.names play p.2 i).map (·.1)) (by rw [List.map_map]; exact SqL.of hm6) ?_
      walk_at "go"
      have hm7 := e6 _ _ hm5
      refine l_appN hm7 (szl (by rw [List.length_map, List.length_map, List.length_range]; omega)) fun H7 e7 hm8 => ?_
      refine ⟨_, rfl, (e5.trans (SameBut.of_same e6)).trans e7, ?_⟩
      rw [hm8, List.range_succ, List.map_append, List.map_append]
      rfl
  · obtain ⟨z, rfl, e5, hm5⟩ := h
    walk_at "go"
    exact k p4 H' (e5.same e04 (e03.free hp4)) (e03.free hp4) hm5
end
section
variable {P : Program} {w : World} {K : PySem.W.Frag} {mg : Str → Option Value} {base : Heap}
/-! ### what holds behind a memory -/
def holdsM (names : List Str) (ps : List Say) (mem st : List Bool) : Say → Bool
  | .lamp n => st.getD (ixOf n names) false
  | .cst b => b
  | .one .nt s => !holdsM names ps mem st s
  | .one .bf s => mem.getD (ixOf (.one .bf s) ps) false
  | .one .on s => holdsM names ps mem st s || mem.getD (ixOf (.one .on s) ps) false
  | .one .sf s => holdsM names ps mem st s && mem.getD (ixOf (.one .sf s) ps) false
  | .two .si s u => holdsM names ps mem st u || (holdsM names ps mem st s && mem.getD (ixOf (.two .si s u) ps) false)
  | .two o s u => o.jn (holdsM names ps mem st s) (holdsM names ps mem st u)
def Say.inner : Say → Say
  | .one .bf s => s
  | s => s
def Say.inP (ps : List Say) : Say → Prop
  | .lamp _ => True
  | .cst _ => True
  | .one o s => ((Say.one o s).past = true → Say.one o s ∈ ps) ∧ s.inP ps
  | .two o s t => ((Say.two o s t).past = true → Say.two o s t ∈ ps) ∧ s.inP ps ∧ t.inP ps
theorem Say.inP_mem {ps : List Say} : ∀ {s : Say}, s.inP ps → s.past = true → s ∈ ps
  | .lamp _, _, h => nomatch h
  | .cst _, _, h => nomatch h
  | .one _ _, h, q => h.1 q
  | .two _ _ _, h, q => h.1 q
theorem Say.inP_parts {ps : List Say} {s p : Say} (h : s.inP ps) (hp : p ∈ s.parts) : p.inP ps := by
  cases s with
  | lamp n => cases hp
  | cst b => cases hp
  | one o s => rcases List.mem_singleton.mp hp with rfl; exact h.2
  | two o s t =>
    rcases List.mem_cons.mp hp with rfl | hp
    · exact h.2.1
    · rcases List.mem_singleton.mp hp with rfl; exact h.2.2
theorem Say.inP_mono {ps qs : List Say} (h : ∀ x ∈ ps, x ∈ qs) : ∀ s : Say, s.inP ps → s.inP qs
  | .lamp _, _ => trivial
  | .cst _, _ => trivial
  | .one _ s, q => ⟨fun z => h _ (q.1 z), Say.inP_mono h s q.2⟩
  | .two _ s t, q => ⟨fun z => h _ (q.1 z), Say.inP_mono h s q.2.1, Say.inP_mono h t q.2.2⟩
theorem addS_sub {ms : List Say} {s x : Say} (h : x ∈ ms) : x ∈ addS ms s := by
  unfold addS
  split
  · exact List.mem_append_left _ h
  · exact h
theorem addS_self {ms : List Say} {s : Say} (h : s.past = true) : s ∈ addS ms s := by
  unfold addS
  split
  · exact List.mem_append_right _ (List.mem_singleton.mpr rfl)
  · next q => exact Classical.byContradiction fun z => q ⟨h, z⟩
theorem gather_sub : ∀ (s : Say) {ms : List Say} {x : Say}, x ∈ ms → x ∈ s.gather ms
  | .lamp _, _, _, h => addS_sub h
  | .cst _, _, _, h => addS_sub h
  | .one _ s, _, _, h => gather_sub s (addS_sub h)
  | .two _ s t, _, _, h => gather_sub t (gather_sub s (addS_sub h))
theorem gather_inP : ∀ (s : Say) (ms : List Say), s.inP (s.gather ms)
  | .lamp _, _ => trivial
  | .cst _, _ => trivial
  | .one o s, ms => ⟨fun z => gather_sub s (addS_self z), gather_inP s _⟩
  | .two o s t, ms => ⟨fun z => gather_sub t (gather_sub s (addS_self z)), Say.inP_mono (fun x h => gather_sub t h) s (gather_inP s _), gather_inP t _⟩
theorem foldg_sub (l : List Say) : ∀ {ms : List Say} {x : Say}, x ∈ ms → x ∈ l.foldl (fun ms s => s.gather ms) ms := by
  induction l with
  | nil => exact fun h => h
  | cons s l ih => exact fun h => ih (gather_sub s h)
theorem foldg_inP (l : List Say) : ∀ (ms : List Say), ∀ s ∈ l, s.inP (l.foldl (fun ms s => s.gather ms) ms) := by
  induction l with
  | nil => exact fun _ _ h => nomatch h
  | cons q l ih =>
    intro ms s hs
    rcases List.mem_cons.mp hs with rfl | hs
    · exact Say.inP_mono (fun x h => foldg_sub l h) s (gather_inP s ms)
    · exact ih _ s hs
theorem addS_past {ms : List Say} {s : Say} (h : ∀ x ∈ ms, x.past = true) : ∀ x ∈ addS ms s, x.past = true := by
  intro x hx
  unfold addS at hx
  split at hx
  · next q =>
    rcases List.mem_append.mp hx with z | z
    · exact h x z
    · rw [List.mem_singleton.mp z]; exact q.1
  · exact h x hx
theorem gather_past : ∀ (s : Say) {ms : List Say}, (∀ x ∈ ms, x.past = true) → ∀ x ∈ s.gather ms, x.past = true
  | .lamp _, _, h => addS_past h
  | .cst _, _, h => addS_past h
  | .one _ s, _, h => gather_past s (addS_past h)
  | .two _ s t, _, h => gather_past t (gather_past s (addS_past h))
theorem foldg_past (l : List Say) : ∀ {ms : List Say}, (∀ x ∈ ms, x.past = true) → ∀ x ∈ l.foldl (fun ms s => s.gather ms) ms, x.past = true := by
  induction l with
  | nil => exact fun h => h
  | cons s l ih => exact fun h => ih (gather_past s h)
theorem Book.says_inP (b : Book) : ∀ s ∈ b.says, s.inP b.pieces := foldg_inP b.says []
theorem Book.pieces_past (b : Book) : ∀ s ∈ b.pieces, s.past = true := foldg_past b.says fun _ h => nomatch h
theorem Book.pieces_inP (b : Book) : ∀ s ∈ b.pieces, s.inP b.pieces := fold_gather_all (p := fun s => s.inP b.pieces) (fun _ h _ hq => Say.inP_parts h hq) b.says b.says_inP [] fun _ h => nomatch h
theorem Book.Ok.pieces_ov {b : Book} (h : b.Ok) : ∀ s ∈ b.pieces, s.ov b.names ∧ s.dep ≤ 8 :=
  fold_gather_all (p := fun s => s.ov b.names ∧ s.dep ≤ 8) (fun _ h _ hq => ⟨Say.ov_parts h.1 hq, by have := Say.dep_parts hq; omega⟩) b.says h.ov [] fun _ h => nomatch h
theorem Book.Ok.pieces_ln {b : Book} (h : b.Ok) : ∀ s ∈ b.pieces, s.ov LN ∧ s.dep ≤ 60 := fun s hs => ⟨Say.ov_mono h.ln s (h.pieces_ov s hs).1, by have := (h.pieces_ov s hs).2; omega⟩
def firstM (b : Book) : List Bool := b.pieces.map fun p => decide (p.head = ("sofar" : Str))
def behindM (b : Book) (mem st : List Bool) : List Bool := b.pieces.map fun p => holdsM b.names b.pieces mem st p.inner
def keepsM (b : Book) (ss : List Say) (mem st : List Bool) : Bool := ss.all fun s => holdsM b.names b.pieces mem st s
def lossM (b : Book) (mem st : List Bool) : Int := ((b.wishes.filter fun p => !holdsM b.names b.pieces mem st p.2).map (·.1)).sum
/-! ### the teller -/
def tellO (K : PySem.W.Frag) (dx : Addr) (v : V) (n p : Addr) : HO := .ins (He.ga K "Teller") dx [("book", v), ("names", .ref n), ("pieces", .ref p)]
def TellAt (K : PySem.W.Frag) (H : Hp) (a : Addr) (b : Book) : Prop := ∃ dx v n p ws, H a = some (tellO K dx v n p) ∧ TD K H v b.enc ∧ TupF H n (b.names.map V.str) ∧ H p = some (.lst ws) ∧ TDs K H ws (b.pieces.map Say.enc)
theorem TellAt.same {H H' : Hp} {a : Addr} {b : Book} (e : Same H H') (h : TellAt K H a b) : TellAt K H' a b := by
  obtain ⟨dx, v, n, p, ws, h1, h2, h3, h4, h5⟩ := h
  exact ⟨dx, v, n, p, ws, e _ _ h1, td_same e h2, h3.same e, e _ _ h4, tds_same e h5⟩
section
variable {H : Hp} {R : V → Prop} {a dx n p : Addr} {v : V}
theorem l_Tbook (D : Hd K mg) (h : H a = some (tellO K dx v n p)) (q : R v) : ∃ b C dx fs u, V.ref a = .ref b ∧ H b = some (.ins C dx fs) ∧ Cls K C ∧ NoAttr K C "book" ∧ fs.lookup ("book" : Str) = some u ∧ R u :=
  ⟨a, _, dx, _, v, rfl, h, cl_Teller D, na_Teller_book D, rfl, q⟩
theorem l_Tnames (D : Hd K mg) (h : H a = some (tellO K dx v n p)) (q : R (.ref n)) : ∃ b C dx fs u, V.ref a = .ref b ∧ H b = some (.ins C dx fs) ∧ Cls K C ∧ NoAttr K C "names" ∧ fs.lookup ("names" : Str) = some u ∧ R u :=
  ⟨a, _, dx, _, .ref n, rfl, h, cl_Teller D, na_Teller_names D, by rfl, q⟩
theorem l_Tpieces (D : Hd K mg) (h : H a = some (tellO K dx v n p)) (q : R (.ref p)) : ∃ b C dx fs u, V.ref a = .ref b ∧ H b = some (.ins C dx fs) ∧ Cls K C ∧ NoAttr K C "pieces" ∧ fs.lookup ("pieces" : Str) = some u ∧ R u :=
  ⟨a, _, dx, _, .ref p, rfl, h, cl_Teller D, na_Teller_pieces D, by rfl, q⟩
end
theorem l_sfld {K : PySem.W.Frag} {D : Ends} {σ : L2.St} {H : Hp} {ta tv : TE} {f : Str} (q : tv σ H fun y H1 => ta σ H1 fun x H2 => ∃ a C dx fs, x = .ref a ∧ H2 a = some (.ins C dx fs) ∧ Cls K C ∧ NoAttr K C f ∧ fs.length < 1000 ∧
  D.nx σ (upd H2 a (.ins C dx (putF f y fs)))) : sFld K ta tv f D σ H := q
theorem l_fldA {K : PySem.W.Frag} {σ : L2.St} {H : Hp} {Q : VK} {ta : TE} {f : Str} (q : ta σ H fun x H1 => ∃ a C dx fs v, x = .ref a ∧ H1 a = some (.ins C dx fs) ∧ Cls K C ∧ NoAttr K C f ∧ fs.lookup f = some v ∧ Q v H1) : tFld K ta f σ H Q := q
theorem l_put {K : PySem.W.Frag} {H : Hp} {f : Str} {R : Hp → Prop} {a C dx : Addr} {fs : List (Str × V)} {y : V} (h : H a = some (.ins C dx fs)) (c : Cls K C) (n : NoAttr K C f) (l : fs.length < 1000)
    (q : ∀ H', SameBut a H H' → TupX K H H' → H' a = some (.ins C dx (putF f y fs)) → R H') : ∃ a' C dx fs, V.ref a = .ref a' ∧ H a' = some (.ins C dx fs) ∧ Cls K C ∧ NoAttr K C f ∧ fs.length < 1000 ∧ R (upd H a' (.ins C dx (putF f y fs))) :=
  ⟨a, C, dx, fs, rfl, h, c, n, l, q _ SameBut.upd (TupX.up (nt_ins h)) upd_same⟩
def spTellInit (K : PySem.W.Frag) : Sp := fun vs H Q _ => ∃ (a dx : Addr) (v : V) (b : Book), vs = [.ref a, v] ∧ H a = some (.ins (He.ga K "Teller") dx []) ∧ TD K H v b.enc ∧ b.Ok ∧ ∀ H', SameBut a H H' → TellAt K H' a b → Q .non H'
theorem sc_Teller_init : FnScope ["self", "book"] ["self", "book"] (defScope s_Teller_init) := ⟨rfl, rfl, rfl, by decide +kernel, rfl, by decide +kernel, by decide +kernel⟩
theorem ok_Teller_init (D : Hd K mg) : OkC P w K mg base "Teller" ["self", "book"] 11 (spTellInit K) := by
  have G_pieces_of := ok_pieces_of (P := P) (w := w) (base := base) D
  obtain ⟨fd, F⟩ := F_Teller_init D
  refine ⟨g_Teller D, mk_Teller D, fd, F.ok sc_Teller_init (fun vs H Q E h => ?_) (fun cdv A outer sS H vs Q E hr h => ?_), F.bindsN fun _ _ _ _ _ _ us hl => match us, hl with | [_, _], _ => rfl⟩
  · obtain ⟨a, dx, v, b, rfl, _⟩ := h
    rfl
  obtain ⟨a, dx, v, b, rfl, ha, hv, hb, k⟩ := h
  refine ⟨_, (PSs.nox (pss_cons (ps_fldK K (pv 0) (pv 1))
      (pss_cons (ps_fldK K (pv 0) (pe_op (op_catFK K) (pe_ix (ix_tupK K) (pv 1) pe_int (fun _ _ => rfl)) (pe_ix (ix_tupK K) (pv 1) pe_int (fun _ _ => rfl))))
      (pss_one (ps_fldK K (pv 0) (pe_cl G_pieces_of hr (pa_cons (pv 1) pa_nil))))))), ?_⟩
  obtain ⟨c, x1, x2, x3, x4, x5, rfl, hT, h1, h2, _⟩ := id hv.t5
  obtain ⟨c1, y1, rfl, hT1, hs1⟩ := h1.tup_inv
  cases hs1.strs_inv
  obtain ⟨c2, y2, rfl, hT2, hs2⟩ := h2.tup_inv
  cases hs2.strs_inv
  walk_at "ga"
  refine l_sfld ?_
  walk_at "ga"
  refine l_put ha (cl_Teller D) (na_Teller_book D) (by show 0 < 1000; decide) fun H1 e1 t1 m1 => ?_
  walk_at "ga"
  refine l_sfld ?_
  have hTb := t1 _ _ hT
  walk_at "ga"
  have hf2 := hb.foe2
  have hr2 := hb.fr2
  refine l_catF (t1 _ _ hT1) (t1 _ _ hT2) (names_nil hb.foe1) (names_nil hb.fr1) (sz (by rw [List.length_map, List.length_map]; omega)) fun p o hp ho => ?_
  have e2 : Same H1 (upd H1 p (.frz o (.tup (b.foe.map V.str ++ b.fr.map V.str)))) := same_new hp
  have hN : TupF (upd H1 p (.frz o (.tup (b.foe.map V.str ++ b.fr.map V.str)))) p (b.names.map V.str) := ⟨o, ho, by unfold Book.names; rw [List.map_append]; exact upd_same⟩
  revert hN e2
  generalize upd H1 p (.frz o (.tup (b.foe.map V.str ++ b.fr.map V.str))) = H2
  intro e2 hN
  walk_at "ga"
  refine l_put (e2 _ _ m1) (cl_Teller D) (na_Teller_names D) (by show 1 < 1000; decide) fun H3 e3 t3 m3 => ?_
  walk_at "ga"
  dsimp only
  refine l_sfld ?_
  walk_at "ga"
  have hv3 := (td_same e2 (hv.mono t1)).mono t3
  refine ⟨_, b, rfl, hv3, by have := hb.says100; omega, hb.ln8, fun l ws H4 e4 hl hm4 hws => ?_⟩
  walk_at "ga"
  refine l_put (e4 _ _ m3) (cl_Teller D) (na_Teller_pieces D) (by show 2 < 1000; decide) fun H5 e5 t5 m5 => ?_
  have np : p ≠ a := (ne_of_none (m1) hp).symm
  have hN3 : TupF H3 p (b.names.map V.str) := by
    obtain ⟨o, ho, q⟩ := hN
    exact ⟨o, ho, e3 _ _ np q⟩
  have hN5 : TupF H5 p (b.names.map V.str) := by
    obtain ⟨o, ho, q⟩ := hN3.same e4
    exact ⟨o, ho, e5 _ _ np q⟩
  have nl : l ≠ a := (ne_of_none m3 hl).symm
  refine k H5 ?_ ⟨dx, _, p, l, ws, m5, (td_same e4 hv3).mono t5, hN5, e5 _ _ nl hm4, hws.mono t5⟩
  exact (((e1.trans (SameBut.of_same e2)).trans e3).trans (SameBut.of_same e4)).trans e5
def spFirst (K : PySem.W.Frag) : Sp := fun vs H Q _ => ∃ (a : Addr) (b : Book), vs = [.ref a] ∧ TellAt K H a b ∧ b.Ok ∧ ∀ l H', Same H H' → H' l = some (.tup ((firstM b).map V.bl)) → Q (.ref l) H'
theorem sc_Teller_first : FnScope ["self", "piece"] ["self"] (defScope s_Teller_first) := ⟨rfl, rfl, rfl, by decide +kernel, rfl, by decide +kernel, by decide +kernel⟩
theorem ok_Teller_first (D : Hd K mg) : OkM P w K mg base "Teller" "first" ["self"] 1 (spFirst K) := by
  obtain ⟨fd, F⟩ := F_Teller_first D
  refine ⟨cl_Teller D, mt_Teller_first D, fd, F.ok sc_Teller_first (fun vs H Q E h => ?_) (fun cdv A outer sS H vs Q E hr h => ?_), F.bindsN fun _ _ _ _ _ _ us hl => match us, hl with | [_], _ => rfl⟩
  · obtain ⟨a, b, rfl, _⟩ := h
    rfl
  obtain ⟨a, b, rfl, ⟨dx, v, n, p, ws, h1, h2, h3, h4, h5⟩, hb, k⟩ := h
  have h4' := SqL.of (K := K) h4
  have hp4 := hb.p4
  have hwl : ws.length = b.pieces.length := by rw [h5.length, List.length_map]
  refine ⟨_, (PSs.nox (pss_one (ps_ret (pe_callTy (cl_tupK K) (by rfl) (g_tuple D) (by decide +kernel) (pa_cons (pe_lc (own := [("piece", 1)]) (g := gName 1) (tt := tYes) (by rfl) sc_Teller_first.nd (pi_listK K (pe_fldK K (pv 0))) (blkOk_by (N := ["self", "piece"]) (sc := defScope s_Teller_first) (by decide +kernel)) (fun _ _ _ _ _ => (pg_name (i := 1) sc_Teller_first.nd rfl (Or.inl rfl))) (fun _ _ _ _ _ => pts_nil) (fun _ _ _ _ _ => (pe_cmpR op_eq (pe_ix (ix_tupK K) (pv 1) pe_int (fun _ _ => rfl)) pe_str (nomark _)))) pa_nil))))), ?_⟩
  walk_at "ga"
  refine l_fldA ?_
  walk_at "ga"
  refine l_Tpieces D h1 ?_
  refine lcL h4' (fun i => ((firstM b).take i).map V.bl) rfl (fun Dd i x H' hD hx e hm => ?_) (fun Dd H' hD e hm => ?_)
  · obtain ⟨d, hd1, hx2⟩ := h5.at hx
    rw [List.getElem?_map] at hd1
    obtain ⟨s, hs, rfl⟩ := Option.map_eq_some_iff.mp hd1
    obtain ⟨c, xs0, rfl, hT⟩ := Say.at0 (td_same e hx2)
    walk_at "go"
    refine ⟨rfl, ?_⟩
    walk_at "ga"
    have hg : (firstM b)[i]? = some (decide (s.head = ("sofar" : Str))) := by
      unfold firstM
      rw [List.getElem?_map, hs]
      rfl
    refine lc_put hD e hm (szl (by rw [List.length_map, List.length_take]; unfold firstM; rw [List.length_map]; omega)) ?_
    show ((firstM b).take (i + 1)).map V.bl = _
    rw [take_get hg, List.map_append]
    congr 1
    show [V.bl _] = [V.bl _]
    rw [show decide (V.str s.head = V.str (Str.ofString "sofar")) = decide (s.head = ("sofar" : Str)) from decide_eq_decide.mpr ⟨fun z => by injection z, fun z => by rw [z]⟩]
  · rw [hwl, show b.pieces.length = (firstM b).length by unfold firstM; rw [List.length_map], List.take_length] at hm
    walk_at "ga"
    refine l_tupL (SqL.of hm) fun l hl => ?_
    exact k l _ (e.trans (same_new hl)) upd_same
end
section
variable {P : Program} {w : World} {K : PySem.W.Frag} {mg : Str → Option Value} {base : Heap}
theorem l_meth {C : Addr} {m : Str} {sp : Sp} {dvs : List V} {E : XK} {ta : TE} {t : TA} {σ : L2.St} {H : Hp} {Q : VK} (q : ta σ H fun x H1 => ∃ a dx fs, x = .ref a ∧ H1 a = some (.ins C dx fs) ∧ fs.lookup m = none ∧
  t σ H1 fun vs H2 => sp (x :: (vs ++ dvs)) H2 Q E) : tMeth C m sp dvs E ta t σ H Q := q
def noF (m : Str) : Prop := m ≠ "book" ∧ m ≠ "names" ∧ m ≠ "pieces"
theorem l_Tm {K : PySem.W.Frag} {m : Str} {H : Hp} {R : Prop} {a dx n p : Addr} {v : V} (h : H a = some (tellO K dx v n p)) (hl : ([("book", v), ("names", .ref n), ("pieces", .ref p)] : List (Str × V)).lookup m = none) (q : R) :
    ∃ a' dx fs, V.ref a = .ref a' ∧ H a' = some (.ins (He.ga K "Teller") dx fs) ∧ fs.lookup m = none ∧ R := ⟨a, dx, _, rfl, h, hl, q⟩
/-- what all of them are asked with -/
structure HArg (K : PySem.W.Frag) (H : Hp) (a : Addr) (b : Book) (m : Addr) (mem : List Bool) (t : Addr) (st : List Bool) : Prop where
  tl : TellAt K H a b
  ok : b.Ok
  mm : SqT K H m (mem.map V.bl)
  ml : mem.length = b.pieces.length
  ss : SqT K H t (st.map V.bl)
  sl : st.length = b.names.length
theorem HArg.same {H H' : Hp} {a m t : Addr} {b : Book} {mem st : List Bool} (e : Same H H') (h : HArg K H a b m mem t st) : HArg K H' a b m mem t st := ⟨h.tl.same e, h.ok, sqt_same e h.mm, h.ml, sqt_same e h.ss, h.sl⟩
def spHolds (K : PySem.W.Frag) (n : Nat) : Sp := fun vs H Q _ => ∃ (a m t : Addr) (v : V) (b : Book) (mem st : List Bool) (s : Say), vs = [.ref a, v, .ref m, .ref t] ∧ HArg K H a b m mem t st ∧ TD K H v s.enc ∧
  s.ov b.names ∧ s.inP b.pieces ∧ s.dep ≤ n ∧ ∀ H', Same H H' → Q (.bl (holdsM b.names b.pieces mem st s)) H'
def spHPast (K : PySem.W.Frag) (n : Nat) : Sp := fun vs H Q _ => ∃ (a m t : Addr) (v : V) (b : Book) (mem st : List Bool) (s : Say), vs = [.ref a, v, .ref m, .ref t] ∧ HArg K H a b m mem t st ∧ TD K H v s.enc ∧
  s.ov b.names ∧ s.inP b.pieces ∧ s.dep ≤ n ∧ s.past = true ∧ ∀ H', Same H H' → Q (.bl (holdsM b.names b.pieces mem st s)) H'
theorem sc_Teller_past : FnScope ["self", "saying", "memory", "setting", "old", "here", "part"] ["self", "saying", "memory", "setting"] (defScope s_Teller_past) := ⟨rfl, rfl, rfl, by decide +kernel, rfl, by decide +kernel, by decide +kernel⟩
theorem sc_Teller_holds : FnScope ["self", "saying", "memory", "setting", "here", "part"] ["self", "saying", "memory", "setting"] (defScope s_Teller_holds) := ⟨rfl, rfl, rfl, by decide +kernel, rfl, by decide +kernel, by decide +kernel⟩
theorem eqv_first {ps : List Say} {s : Say} {m : Nat} {z : PyData} (hm : m < ixOf s ps) (hz : (ps.map Say.enc)[m]? = some z) : PyData.eqv z s.enc = false := by
  rw [List.getElem?_map] at hz
  obtain ⟨q, hq, rfl⟩ := Option.map_eq_some_iff.mp hz
  cases e : PyData.eqv q.enc s.enc with
  | false => rfl
  | true =>
    rw [(Say.eqv q s).mp e] at hq
    exact absurd hq (ixOf_first hm)
theorem ok_holds0 (D : Hd K mg) : OkM P w K mg base "Teller" "holds" ["self", "saying", "memory", "setting"] 1 (spHolds K 0) := by
  obtain ⟨fd, F⟩ := F_Teller_holds D
  refine ⟨cl_Teller D, mt_Teller_holds D, fd, fnOk_none fun vs H Q E h => ?_, F.bindsN fun _ _ _ _ _ _ us hl => match us, hl with | [_, _, _, _], _ => rfl⟩
  obtain ⟨a, m, t, v, b, mem, st, s, _, _, _, _, _, h1, _⟩ := h
  have := s.dep_pos
  omega
theorem ok_past1 (D : Hd K mg) {n lv : Nat} (G_Teller_holds : OkM P w K mg base "Teller" "holds" ["self", "saying", "memory", "setting"] lv (spHolds K n)) (hlv : 1 ≤ lv) : OkM P w K mg base "Teller" "past" ["self", "saying", "memory", "setting"] (lv + 1) (spHPast K (n + 1)) := by
  have G_parts_of := ok_parts_of (P := P) (w := w) (base := base) D
  obtain ⟨fd, F⟩ := F_Teller_past D
  refine ⟨cl_Teller D, mt_Teller_past D, fd, F.ok sc_Teller_past (fun vs H Q E h => ?_) (fun cdv A outer sS H vs Q E hr h => ?_), F.bindsN fun _ _ _ _ _ _ us hl => match us, hl with | [_, _, _, _], _ => rfl⟩
  · obtain ⟨a, m, t, v, b, mem, st, s, rfl, _⟩ := h
    rfl
  obtain ⟨a, m, t, v, b, mem, st, s, rfl, hA, hv, ho, hi, hd, hp, k⟩ := h
  obtain ⟨dx, bv, n1, p, ws, h1, h2, h3, h4, h5⟩ := hA.tl
  have hsm : s ∈ b.pieces := Say.inP_mem hi hp
  have hix := ixOf_get hsm
  have hmm := hA.mm
  have hp4 := hA.ok.p4
  refine ⟨_, (PSs.nox (pss_cons (ps_set (i := 4) sc_Teller_past.nd rfl (Or.inl rfl) (pe_ix (ix_tupK K) (pv 2) (pe_bmK K PySem.F.plainAttrs_list PySem.F.slot_list_index PySem.F.type_list_index (mt_ixDK K (hu65 hr)) (pe_fldK K (pv 0)) (pa_cons (pv 1) pa_nil)) (fun _ _ => rfl)))
      (pss_cons (ps_if (pt_cmpR op_eq (pe_ix (ix_tupK K) (pv 1) pe_int (fun _ _ => rfl)) pe_str (nomark _)) (pss_one (ps_ret (pv 4))) pss_nil)
      (pss_cons (ps_setLc (i := 5) (own := [("part", 6)]) (g := gName 6) (tt := tYes) (by rfl) sc_Teller_past.nd rfl rfl (sw_true rfl rfl rfl (by decide +kernel)) (pi_tupK K (pe_cl G_parts_of hr (pa_cons (pv 1) pa_nil))) (blkOk_by (N := ["self", "saying", "memory", "setting", "old", "here", "part"]) (sc := defScope s_Teller_past) (by decide +kernel)) (fun _ _ _ _ _ => (pg_name (i := 6) sc_Teller_past.nd rfl (Or.inl rfl))) (fun _ _ _ _ _ => pts_nil) (fun _ _ _ _ _ => (pe_mtK K (pv 0) G_Teller_holds hr (pa_cons (pv 6) (pa_cons (pv 2) (pa_cons (pv 3) pa_nil))))))
      (pss_cons (ps_if (pt_cmpR op_eq (pe_ix (ix_tupK K) (pv 1) pe_int (fun _ _ => rfl)) pe_str (nomark _)) (pss_one (ps_ret (pe_or (pe_ix (ix_listK K) (pv 5) pe_int (fun _ _ => rfl)) (pe_one (pv 4))))) pss_nil)
      (pss_cons (ps_if (pt_cmpR op_eq (pe_ix (ix_tupK K) (pv 1) pe_int (fun _ _ => rfl)) pe_str (nomark _)) (pss_one (ps_ret (pe_and (pe_ix (ix_listK K) (pv 5) pe_int (fun _ _ => rfl)) (pe_one (pv 4))))) pss_nil)
      (pss_one (ps_ret (pe_or (pe_ix (ix_listK K) (pv 5) pe_int (fun _ _ => rfl)) (pe_one (pe_and (pe_ix (ix_listK K) (pv 5) pe_int (fun _ _ => rfl)) (pe_one (pv 4))))))))))))), ?_⟩
  obtain ⟨c, xs0, rfl, hT⟩ := Say.at0 hv
  walk_at "ga"
  refine l_fldA ?_
  walk_at "ga"
  refine l_Tpieces D h1 ?_
  refine ⟨tyv_list (SqL.of h4), ?_⟩
  walk_at "ga"
  refine ⟨p, _, s.enc, b.pieces.map Say.enc, ixOf s b.pieces, s.enc, rfl, rfl, dpl (SqL.of h4) h5, hv.dp, Say.shapeds hA.ok.pieces_ln, Say.shaped (hA.ok.pieces_ln s hsm).1 (hA.ok.pieces_ln s hsm).2, ?_, (Say.eqv s s).mpr rfl, fun m z' hm hz => eqv_first hm hz, ?_⟩
  · rw [List.getElem?_map, hix]
    rfl
  have hml : ixOf s b.pieces < mem.length := by rw [hA.ml]; exact ixOf_lt hsm
  have hold : (mem.map V.bl)[ixOf s b.pieces]? = some (V.bl (mem.getD (ixOf s b.pieces) false)) := by
    rw [List.getElem?_map, List.getD_eq_getElem?_getD, List.getElem?_eq_getElem hml]
    rfl
  refine l_ixT hmm (atI_nat hold) ?_
  walk_at "go"
  by_cases hb : s.head = "before"
  · refine l_iT (decide_eq_true (by rw [hb])) ?_
    walk_at "ga"
    have := k H (Same.refl H)
    cases s with
    | lamp z => cases hp
    | cst z => cases hp
    | one o q =>
      cases o with
      | bf => exact this
      | _ => exact absurd hb (by simp only [Say.head]; decide +kernel)
    | two o q u => exact absurd hb (by show ¬ (O2.str o = _); cases o <;> decide +kernel)
  refine l_iF (dec_str_ne hb) ?_
  walk_at "ga"
  refine ⟨_, s, rfl, hv, fun r H1 e1 hr1 => ?_⟩
  obtain ⟨c1, ys, rfl, hTc, hys⟩ := hr1.tup_inv
  have hyl : ys.length = s.parts.length := by rw [hys.length, List.length_map]
  have hp2 : s.parts.length ≤ 2 := by cases s <;> simp [Say.parts]
  refine lcT hTc (fun i => ((s.parts.map fun q => holdsM b.names b.pieces mem st q).take i).map V.bl) rfl (fun Dd i x H' hD hx e hm => ?_) (fun Dd H2 hD e hm => ?_)
  · obtain ⟨d, hd1, hx2⟩ := hys.at hx
    rw [List.getElem?_map] at hd1
    obtain ⟨q, hq, rfl⟩ := Option.map_eq_some_iff.mp hd1
    have hqm : q ∈ s.parts := List.mem_of_getElem? hq
    have e3 := e1.trans e
    walk_at "go"
    refine ⟨rfl, ?_⟩
    walk_at "ga"
    refine l_meth ?_
    walk_at "ga"
    refine l_Tm (e3 _ _ h1) (by rfl) ?_
    walk_at "ga"
    refine ⟨a, m, t, x, b, mem, st, q, rfl, hA.same e3, td_same e hx2, Say.ov_parts ho hqm, Say.inP_parts hi hqm, by have := Say.dep_parts hqm; omega, fun H4 e4 => ?_⟩
    refine lc_put hD (e.trans e4) (e4 _ _ hm) (szl (by rw [List.length_map, List.length_take, List.length_map]; omega)) ?_
    have hg : (s.parts.map fun q => holdsM b.names b.pieces mem st q)[i]? = some (holdsM b.names b.pieces mem st q) := by rw [List.getElem?_map, hq]; rfl
    show ((_ : List Bool).take (i + 1)).map V.bl = _
    rw [take_get hg, List.map_append]
    rfl
  · rw [hyl, show s.parts.length = (s.parts.map fun q => holdsM b.names b.pieces mem st q).length by rw [List.length_map], List.take_length] at hm
    have e2 := e1.trans e
    have hT2 := sqt_same e2 hT
    have fin := k H2 e2
    cases s with
    | lamp z => cases hp
    | cst z => cases hp
    | one o q =>
      cases o with
      | nt => cases hp
      | bf => exact absurd rfl hb
      | on =>
        walk_at "ga"
        refine l_i2 (fun (e : holdsM b.names b.pieces mem st q = true) => ?_) (fun (e : holdsM b.names b.pieces mem st q = false) => ?_)
        · show Q _ _
          have fin2 := fin
          unfold holdsM at fin2
          rw [e, Bool.true_or] at fin2
          exact fin2
        · walk_at "ga"
          have fin2 := fin
          unfold holdsM at fin2
          rw [e, Bool.false_or] at fin2
          exact fin2
      | sf =>
        walk_at "ga"
        refine l_i2 (fun (e : holdsM b.names b.pieces mem st q = true) => ?_) (fun (e : holdsM b.names b.pieces mem st q = false) => ?_)
        · walk_at "ga"
          have fin2 := fin
          unfold holdsM at fin2
          rw [e, Bool.true_and] at fin2
          exact fin2
        · have fin2 := fin
          unfold holdsM at fin2
          rw [e, Bool.false_and] at fin2
          exact fin2
    | two o q u =>
      cases o with
      | si =>
        have fin2 := fin
        unfold holdsM at fin2
        walk_at "ga"
        refine l_i2 (fun (e : holdsM b.names b.pieces mem st u = true) => ?_) (fun (e : holdsM b.names b.pieces mem st u = false) => ?_)
        · rw [e, Bool.true_or] at fin2
          exact fin2
        · rw [e, Bool.false_or] at fin2
          walk_at "ga"
          refine l_i2 (fun (e : holdsM b.names b.pieces mem st q = true) => ?_) (fun (e : holdsM b.names b.pieces mem st q = false) => ?_)
          · rw [e, Bool.true_and] at fin2
            walk_at "ga"
            exact fin2
          · rw [e, Bool.false_and] at fin2
            exact fin2
      | _ => cases hp
theorem ok_holds1 (D : Hd K mg) {n lv : Nat} (G_Teller_holds : OkM P w K mg base "Teller" "holds" ["self", "saying", "memory", "setting"] lv (spHolds K n)) (G_Teller_past : OkM P w K mg base "Teller" "past" ["self", "saying", "memory", "setting"] (lv + 1) (spHPast K (n + 1))) (hlv : 1 ≤ lv) :
    OkM P w K mg base "Teller" "holds" ["self", "saying", "memory", "setting"] (lv + 2) (spHolds K (n + 1)) := by
  have G_parts_of := ok_parts_of (P := P) (w := w) (base := base) D
  obtain ⟨fd, F⟩ := F_Teller_holds D
  refine ⟨cl_Teller D, mt_Teller_holds D, fd, F.ok sc_Teller_holds (fun vs H Q E h => ?_) (fun cdv A outer sS H vs Q E hr h => ?_), F.bindsN fun _ _ _ _ _ _ us hl => match us, hl with | [_, _, _, _], _ => rfl⟩
  · obtain ⟨a, m, t, v, b, mem, st, s, rfl, _⟩ := h
    rfl
  obtain ⟨a, m, t, v, b, mem, st, s, rfl, hA, hv, ho, hi, hd, k⟩ := h
  obtain ⟨dx, bv, n1, p, ws, h1, h2, h3, h4, h5⟩ := hA.tl
  have hss := hA.ss
  refine ⟨_, (PSs.nox (pss_cons (ps_if (pt_cmpR op_eq (pe_ix (ix_tupK K) (pv 1) pe_int (fun _ _ => rfl)) pe_str (nomark _)) (pss_one (ps_ret (pe_ix (ix_tupK K) (pv 3) (pe_bmF PySem.F.slot_tuple_index PySem.F.type_tuple_index (mt_tixK K) (pe_fldK K (pv 0)) (pa_cons (pe_ix (ix_tupK K) (pv 1) pe_int (fun _ _ => rfl)) pa_nil)) (fun _ _ => rfl)))) pss_nil)
      (pss_cons (ps_if (PW.pt (pw_or (pt_cmpR op_eq (pe_ix (ix_tupK K) (pv 1) pe_int (fun _ _ => rfl)) pe_str (nomark _)) (pw_or1 (pt_cmpR op_eq (pe_ix (ix_tupK K) (pv 1) pe_int (fun _ _ => rfl)) pe_str (nomark _))))) (pss_one (ps_ret (pe_cmpR op_eq (pe_ix (ix_tupK K) (pv 1) pe_int (fun _ _ => rfl)) pe_str (nomark _)))) pss_nil)
      (pss_cons (ps_if (pt_cmpR (op_inK K) (pe_ix (ix_tupK K) (pv 1) pe_int (fun _ _ => rfl)) (pe_tup (pa_cons pe_str (pa_cons pe_str (pa_cons pe_str (pa_cons pe_str pa_nil))))) (by rfl)) (pss_one (ps_ret (pe_mtK K (pv 0) G_Teller_past hr (pa_cons (pv 1) (pa_cons (pv 2) (pa_cons (pv 3) pa_nil)))))) pss_nil)
      (pss_cons (ps_setLc (i := 4) (own := [("part", 5)]) (g := gName 5) (tt := tYes) (by rfl) sc_Teller_holds.nd rfl rfl (sw_true rfl rfl rfl (by decide +kernel)) (pi_tupK K (pe_cl G_parts_of hr (pa_cons (pv 1) pa_nil))) (blkOk_by (N := ["self", "saying", "memory", "setting", "here", "part"]) (sc := defScope s_Teller_holds) (by decide +kernel)) (fun _ _ _ _ _ => (pg_name (i := 5) sc_Teller_holds.nd rfl (Or.inl rfl))) (fun _ _ _ _ _ => pts_nil) (fun _ _ _ _ _ => (pe_mtK K (pv 0) G_Teller_holds hr (pa_cons (pv 5) (pa_cons (pv 2) (pa_cons (pv 3) pa_nil))))))
      (pss_cons (ps_if (pt_cmpR op_eq (pe_ix (ix_tupK K) (pv 1) pe_int (fun _ _ => rfl)) pe_str (nomark _)) (pss_one (ps_ret (pe_not (pe_ix (ix_listK K) (pv 4) pe_int (fun _ _ => rfl))))) pss_nil)
      (pss_cons (ps_if (pt_cmpR op_eq (pe_ix (ix_tupK K) (pv 1) pe_int (fun _ _ => rfl)) pe_str (nomark _)) (pss_one (ps_ret (pe_and (pe_ix (ix_listK K) (pv 4) pe_int (fun _ _ => rfl)) (pe_one (pe_ix (ix_listK K) (pv 4) pe_int (fun _ _ => rfl)))))) pss_nil)
      (pss_cons (ps_if (pt_cmpR op_eq (pe_ix (ix_tupK K) (pv 1) pe_int (fun _ _ => rfl)) pe_str (nomark _)) (pss_one (ps_ret (pe_or (pe_ix (ix_listK K) (pv 4) pe_int (fun _ _ => rfl)) (pe_one (pe_ix (ix_listK K) (pv 4) pe_int (fun _ _ => rfl)))))) pss_nil)
      (pss_cons (ps_if (pt_cmpR op_eq (pe_ix (ix_tupK K) (pv 1) pe_int (fun _ _ => rfl)) pe_str (nomark _)) (pss_one (ps_ret (pe_or (pe_ix (ix_listK K) (pv 4) pe_int (fun _ _ => rfl)) (pe_one (pe_not (pe_ix (ix_listK K) (pv 4) pe_int (fun _ _ => rfl))))))) pss_nil)
      (pss_one (ps_ret (pe_cmpR op_eq (pe_ix (ix_listK K) (pv 4) pe_int (fun _ _ => rfl)) (pe_ix (ix_listK K) (pv 4) pe_int (fun _ _ => rfl)) (nomark _))))))))))))), ?_⟩
  by_cases hlamp : s.head = "lamp"
  · cases s with
    | cst b => exact absurd hlamp (yn.nl b)
    | one o s => exact absurd hlamp (O1.nl o)
    | two o s t => exact absurd hlamp (O2.nl o)
    | lamp z =>
      obtain ⟨c, x, y, rfl, hT, h6, h7⟩ := hv.t2
      cases h6.str_inv
      cases h7.str_inv
      walk_at "ga"
      refine l_fldA ?_
      walk_at "ga"
      refine l_Tnames D h1 ?_
      refine ⟨⟨_, _, rfl, h3⟩, ?_⟩
      walk_at "ga"
      refine l_tix h3.sqt (ixOf_get ho) (fun m hm => ixOf_first hm) ?_
      have hx5 : ixOf z b.names < st.length := by rw [hA.sl]; exact ixOf_lt ho
      refine l_ixT hss (atI_nat (v := V.bl (st.getD (ixOf z b.names) false)) ?_) ?_
      · rw [List.getElem?_map, List.getD_eq_getElem?_getD, List.getElem?_eq_getElem hx5]
        rfl
      · exact k H (Same.refl H)
  by_cases hyn : s.head = "yes" ∨ s.head = "no"
  · cases s with
    | lamp z => exact absurd rfl hlamp
    | one o s => exact absurd hyn (by show ¬ (o.str = "yes" ∨ o.str = "no"); cases o <;> decide +kernel)
    | two o s t => exact absurd hyn (by show ¬ (o.str = "yes" ∨ o.str = "no"); cases o <;> decide +kernel)
    | cst z =>
      obtain ⟨c, x, rfl, hT, h0⟩ := hv.t1
      cases h0.str_inv
      walk_at "go"
      refine l_iF (decide_eq_false (by cases z <;> decide +kernel)) ?_
      walk_at "go"
      have hyes : decide (V.str (yn z) = V.str (Str.ofString "yes")) = z := by cases z <;> decide +kernel
      have fin := k H (Same.refl H)
      unfold holdsM at fin
      refine l_i2 (fun e => ?_) (fun e => ?_)
      · walk_at "ga"
        rw [hyes]
        exact fin
      · walk_at "go"
        rw [hyes] at e
        refine l_iT (by subst e; decide +kernel) ?_
        walk_at "ga"
        rw [hyes]
        exact fin
  obtain ⟨c, xs0, rfl, hT⟩ := Say.at0 hv
  walk_at "go"
  refine l_iF (dec_str_ne hlamp) ?_
  walk_at "go"
  refine l_iF (dec_str_ne fun e => hyn (.inl e)) ?_
  walk_at "go"
  refine l_iF (dec_str_ne fun e => hyn (.inr e)) ?_
  walk_at "go"
  refine l_mkT (by show 4 ≤ sizeLine; decide) fun p4 H1 e1 hp4 hm4 => ?_
  have hA1 := hA.same e1
  have hv1 := td_same e1 hv
  have hT1 := sqt_same e1 hT
  refine l_inTs (ns := PST) (SqT.of hm4) ?_
  walk_at "go"
  rw [Say.past_head]
  refine l_i2 (fun hp => ?_) (fun hp => ?_)
  · walk_at "ga"
    refine l_meth ?_
    walk_at "ga"
    refine l_Tm (e1 _ _ h1) (by rfl) ?_
    walk_at "ga"
    exact ⟨a, m, t, _, b, mem, st, s, rfl, hA1, hv1, ho, hi, hd, hp, fun H' e => k H' (e1.trans e)⟩
  walk_at "ga"
  refine ⟨_, s, rfl, hv1, fun r H2 e2 hr1 => ?_⟩
  obtain ⟨c1, ys, rfl, hTc, hys⟩ := hr1.tup_inv
  have hyl : ys.length = s.parts.length := by rw [hys.length, List.length_map]
  have hp2 : s.parts.length ≤ 2 := by cases s <;> simp [Say.parts]
  refine lcT hTc (fun i => ((s.parts.map fun q => holdsM b.names b.pieces mem st q).take i).map V.bl) rfl (fun Dd i x H' hD hx e hm => ?_) (fun Dd H3 hD e hm => ?_)
  · obtain ⟨d, hd1, hx2⟩ := hys.at hx
    rw [List.getElem?_map] at hd1
    obtain ⟨q, hq, rfl⟩ := Option.map_eq_some_iff.mp hd1
    have hqm : q ∈ s.parts := List.mem_of_getElem? hq
    have e3 := e2.trans e
    walk_at "go"
    refine ⟨rfl, ?_⟩
    walk_at "ga"
    refine l_meth ?_
    walk_at "ga"
    refine l_Tm ((e1.trans e3) _ _ h1) (by rfl) ?_
    walk_at "ga"
    refine ⟨a, m, t, x, b, mem, st, q, rfl, hA1.same e3, td_same e hx2, Say.ov_parts ho hqm, Say.inP_parts hi hqm, by have := Say.dep_parts hqm; omega, fun H4 e4 => ?_⟩
    refine lc_put hD (e.trans e4) (e4 _ _ hm) (szl (by rw [List.length_map, List.length_take, List.length_map]; omega)) ?_
    have hg : (s.parts.map fun q => holdsM b.names b.pieces mem st q)[i]? = some (holdsM b.names b.pieces mem st q) := by rw [List.getElem?_map, hq]; rfl
    show ((_ : List Bool).take (i + 1)).map V.bl = _
    rw [take_get hg, List.map_append]
    rfl
  · rw [hyl, show s.parts.length = (s.parts.map fun q => holdsM b.names b.pieces mem st q).length by rw [List.length_map], List.take_length] at hm
    have e3 := (e1.trans e2).trans e
    have hT3 := sqt_same e3 hT
    have fin := k H3 e3
    cases s with
    | lamp z => exact absurd rfl hlamp
    | cst z => exact absurd (show yn z = "yes" ∨ yn z = "no" by cases z <;> decide +kernel) hyn
    | one o q =>
      cases o with
      | nt =>
        unfold holdsM at fin
        walk_at "ga"
        exact fin
      | _ => cases hp
    | two o q u =>
      cases o with
      | si => cases hp
      | an =>
        have fin2 : Q (.bl (holdsM b.names b.pieces mem st q && holdsM b.names b.pieces mem st u)) H3 := fin
        walk_at "ga"
        refine l_i2 (fun (e : holdsM b.names b.pieces mem st q = true) => ?_) (fun (e : holdsM b.names b.pieces mem st q = false) => ?_)
        · rw [e, Bool.true_and] at fin2
          walk_at "ga"
          exact fin2
        · rw [e, Bool.false_and] at fin2
          exact fin2
      | or =>
        have fin2 : Q (.bl (holdsM b.names b.pieces mem st q || holdsM b.names b.pieces mem st u)) H3 := fin
        walk_at "ga"
        refine l_i2 (fun (e : holdsM b.names b.pieces mem st q = true) => ?_) (fun (e : holdsM b.names b.pieces mem st q = false) => ?_)
        · rw [e, Bool.true_or] at fin2
          exact fin2
        · rw [e, Bool.false_or] at fin2
          walk_at "ga"
          exact fin2
      | th =>
        have fin2 : Q (.bl (holdsM b.names b.pieces mem st u || !holdsM b.names b.pieces mem st q)) H3 := fin
        walk_at "ga"
        refine l_i2 (fun (e : holdsM b.names b.pieces mem st u = true) => ?_) (fun (e : holdsM b.names b.pieces mem st u = false) => ?_)
        · rw [e, Bool.true_or] at fin2
          exact fin2
        · rw [e, Bool.false_or] at fin2
          walk_at "ga"
          exact fin2
      | sm =>
        have fin2 : Q (.bl (holdsM b.names b.pieces mem st q == holdsM b.names b.pieces mem st u)) H3 := fin
        walk_at "ga"
        have eqb : ∀ x y : Bool, decide (V.bl x = V.bl y) = (x == y) := by intro x y; cases x <;> cases y <;> rfl
        rw [eqb]
        exact fin2
theorem ok_Teller_holds (D : Hd K mg) : ∀ n, OkM P w K mg base "Teller" "holds" ["self", "saying", "memory", "setting"] (2 * n + 1) (spHolds K n)
  | 0 => ok_holds0 D
  | n + 1 => ok_holds1 D (ok_Teller_holds D n) (ok_past1 D (ok_Teller_holds D n) (by omega)) (by omega)
/-! ### behind, keeps, loss -/
def spBehind (K : PySem.W.Frag) : Sp := fun vs H Q _ => ∃ (a m t : Addr) (b : Book) (mem st : List Bool), vs = [.ref a, .ref m, .ref t] ∧ HArg K H a b m mem t st ∧ ∀ l H', Same H H' → H' l = some (.tup ((behindM b mem st).map V.bl)) → Q (.ref l) H'
def spKeeps (K : PySem.W.Frag) : Sp := fun vs H Q _ => ∃ (a m t : Addr) (v : V) (b : Book) (mem st : List Bool) (ss : List Say), vs = [.ref a, v, .ref m, .ref t] ∧ HArg K H a b m mem t st ∧ TD K H v (encSays ss) ∧ ss.length ≤ 100 ∧
  (∀ s ∈ ss, s ∈ b.says) ∧ ∀ H', Same H H' → Q (.bl (keepsM b ss mem st)) H'
def spLoss (K : PySem.W.Frag) : Sp := fun vs H Q _ => ∃ (a m t : Addr) (b : Book) (mem st : List Bool), vs = [.ref a, .ref m, .ref t] ∧ HArg K H a b m mem t st ∧ ∀ H', Same H H' → Q (.int (lossM b mem st)) H'
theorem sc_Teller_behind : FnScope ["self", "memory", "setting", "made", "piece"] ["self", "memory", "setting"] (defScope s_Teller_behind) := ⟨rfl, rfl, rfl, by decide +kernel, rfl, by decide +kernel, by decide +kernel⟩
theorem sc_Teller_keeps : FnScope ["self", "sayings", "memory", "setting", "saying"] ["self", "sayings", "memory", "setting"] (defScope s_Teller_keeps) := ⟨rfl, rfl, rfl, by decide +kernel, rfl, by decide +kernel, by decide +kernel⟩
theorem sc_Teller_loss : FnScope ["self", "memory", "setting", "price", "saying"] ["self", "memory", "setting"] (defScope s_Teller_loss) := ⟨rfl, rfl, rfl, by decide +kernel, rfl, by decide +kernel, by decide +kernel⟩
theorem Say.head_bf {s : Say} (h : s.head = "before") : ∃ q, s = .one .bf q := by
  cases s with
  | lamp z => exact absurd h (by simp only [Say.head]; decide +kernel)
  | cst z => exact absurd h (by simp only [Say.head]; cases z <;> decide +kernel)
  | one o q =>
    cases o with
    | bf => exact ⟨q, rfl⟩
    | _ => exact absurd h (by simp only [Say.head]; decide +kernel)
  | two o q u => exact absurd h (by simp only [Say.head]; cases o <;> decide +kernel)
theorem Say.inner_nb {s : Say} (h : s.head ≠ "before") : s.inner = s := by
  cases s with
  | one o q =>
    cases o with
    | bf => exact absurd rfl h
    | _ => rfl
  | _ => rfl
theorem ok_Teller_behind (D : Hd K mg) : OkM P w K mg base "Teller" "behind" ["self", "memory", "setting"] 18 (spBehind K) := by
  have G_Teller_holds := ok_Teller_holds (P := P) (w := w) (base := base) D 8
  obtain ⟨fd, F⟩ := F_Teller_behind D
  refine ⟨cl_Teller D, mt_Teller_behind D, fd, F.ok sc_Teller_behind (fun vs H Q E h => ?_) (fun cdv A outer sS H vs Q E hr h => ?_), F.bindsN fun _ _ _ _ _ _ us hl => match us, hl with | [_, _, _], _ => rfl⟩
  · obtain ⟨a, m, t, b, mem, st, rfl, _⟩ := h
    rfl
  obtain ⟨a, m, t, b, mem, st, rfl, hA, k⟩ := h
  obtain ⟨dx, bv, n1, p, ws, h1, h2, h3, h4, h5⟩ := hA.tl
  have hp4 := hA.ok.p4
  have hwl : ws.length = b.pieces.length := by rw [h5.length, List.length_map]
  refine ⟨_, (PSs.nox (pss_cons (ps_set (i := 3) sc_Teller_behind.nd rfl (Or.inl rfl) (pe_lst pa_nil))
      (pss_cons (ps_for PassesOwn.never rfl (pi_listK K (pe_fldK K (pv 0))) (pg_name (i := 4) sc_Teller_behind.nd rfl (Or.inl rfl)) (pss_one (ps_if (pt_cmpR op_eq (pe_ix (ix_tupK K) (pv 4) pe_int (fun _ _ => rfl)) pe_str (nomark _)) (pss_one (ps_expr (pe_bmK K PySem.F.plainAttrs_list PySem.F.slot_list_append PySem.F.type_list_append mt_append (pv 3) (pa_cons (pe_mtK K (pv 0) G_Teller_holds hr (pa_cons (pe_ix (ix_tupK K) (pv 4) pe_int (fun _ _ => rfl)) (pa_cons (pv 1) (pa_cons (pv 2) pa_nil)))) pa_nil)))) (pss_one (ps_expr (pe_bmK K PySem.F.plainAttrs_list PySem.F.slot_list_append PySem.F.type_list_append mt_append (pv 3) (pa_cons (pe_mtK K (pv 0) G_Teller_holds hr (pa_cons (pv 4) (pa_cons (pv 1) (pa_cons (pv 2) pa_nil)))) pa_nil)))))))
      (pss_one (ps_ret (pe_callTy (cl_tupK K) (by rfl) (g_tuple D) (by decide +kernel) (pa_cons (pv 3) pa_nil))))))), ?_⟩
  walk_at "ga"
  refine l_mkL0 fun l H1 e1 hl hm1 => ?_
  walk_at "ga"
  refine l_fldA ?_
  walk_at "ga"
  refine l_Tpieces D (e1 _ _ h1) ?_
  refine forL (SqL.of (e1 _ _ h4)) (fun i σ' H' => ∃ z, σ' = [some (.ref a), some (.ref m), some (.ref t), some (.ref l), z] ∧ SameBut l H1 H' ∧ H' l = some (.lst (((behindM b mem st).take i).map V.bl)))
    ⟨_, rfl, SameBut.refl l H1, hm1⟩ (fun i σ' H' _ h => ?_) (fun i x σ' H' hx h => ?_) (fun σ' H' h => ?_)
  · obtain ⟨z, _, e2, _⟩ := h
    exact SqL.of ((e2.same e1 hl) _ _ h4)
  · obtain ⟨z, rfl, e2, hm2⟩ := h
    have e02 : Same H H' := e2.same e1 hl
    obtain ⟨d, hd1, hx2⟩ := h5.at hx
    rw [List.getElem?_map] at hd1
    obtain ⟨s, hs, rfl⟩ := Option.map_eq_some_iff.mp hd1
    have hsm : s ∈ b.pieces := List.mem_of_getElem? hs
    have hs2 := hA.ok.pieces_ov s hsm
    have hi2 := b.pieces_inP s hsm
    have hx3 := td_same e02 hx2
    obtain ⟨c, xs0, rfl, hT⟩ := Say.at0 hx3
    have hg : (behindM b mem st)[i]? = some (holdsM b.names b.pieces mem st s.inner) := by unfold behindM; rw [List.getElem?_map, hs]; rfl
    have hlen : (((behindM b mem st).take i).map V.bl).length < sizeLine := szl (by rw [List.length_map, List.length_take]; unfold behindM; rw [List.length_map]; omega)
    have next : ∀ H4, Same H' H4 → rAppend (.ref l) [.bl (holdsM b.names b.pieces mem st s.inner)] H4 (fun _ H5 => ∃ z, [some (.ref a), some (.ref m), some (.ref t), some (.ref l), some (V.ref c)] = [some (.ref a), some (.ref m), some (.ref t), some (.ref l), z] ∧ SameBut l H1 H5 ∧ H5 l = some (.lst (((behindM b mem st).take (i + 1)).map V.bl))) := by
      intro H4 e4
      refine l_appN (e4 _ _ hm2) hlen fun H5 e5 hm5 => ⟨_, rfl, (e2.trans (SameBut.of_same e4)).trans e5, ?_⟩
      rw [hm5, take_get hg, List.map_append]
      rfl
    walk_at "go"
    by_cases hb : s.head = "before"
    · refine l_iT (decide_eq_true (by rw [hb])) ?_
      obtain ⟨q, rfl⟩ := Say.head_bf hb
      obtain ⟨c', x0, x1, ec, hT2, h6, h7⟩ := hx3.t2
      cases ec
      cases h6.str_inv
      walk_at "ga"
      refine ⟨tyv_list (SqL.of hm2), ?_⟩
      walk_at "ga"
      refine l_meth ?_
      walk_at "ga"
      refine l_Tm (e02 _ _ h1) (by rfl) ?_
      walk_at "ga"
      refine ⟨a, m, t, x1, b, mem, st, q, rfl, hA.same e02, h7, hs2.1, hi2.2, by have := Say.dep_parts (s := .one .bf q) (p := q) (by simp [Say.parts]); omega, fun H4 e4 => ?_⟩
      exact next H4 e4
    · refine l_iF (dec_str_ne hb) ?_
      rw [Say.inner_nb hb] at next
      walk_at "ga"
      refine ⟨tyv_list (SqL.of hm2), ?_⟩
      walk_at "ga"
      refine l_meth ?_
      walk_at "ga"
      refine l_Tm (e02 _ _ h1) (by rfl) ?_
      walk_at "ga"
      exact ⟨a, m, t, _, b, mem, st, s, rfl, hA.same e02, hx3, hs2.1, hi2, hs2.2, fun H4 e4 => next H4 e4⟩
  · obtain ⟨z, rfl, e2, hm2⟩ := h
    rw [hwl, show b.pieces.length = (behindM b mem st).length by unfold behindM; rw [List.length_map], List.take_length] at hm2
    walk_at "ga"
    refine l_tupL (SqL.of hm2) fun l2 hl2 => ?_
    exact k l2 _ ((e2.same e1 hl).trans (same_new hl2)) upd_same
theorem ok_Teller_keeps (D : Hd K mg) : OkM P w K mg base "Teller" "keeps" ["self", "sayings", "memory", "setting"] 18 (spKeeps K) := by
  have G_Teller_holds := ok_Teller_holds (P := P) (w := w) (base := base) D 8
  obtain ⟨fd, F⟩ := F_Teller_keeps D
  refine ⟨cl_Teller D, mt_Teller_keeps D, fd, F.ok sc_Teller_keeps (fun vs H Q E h => ?_) (fun cdv A outer sS H vs Q E hr h => ?_), F.bindsN fun _ _ _ _ _ _ us hl => match us, hl with | [_, _, _, _], _ => rfl⟩
  · obtain ⟨a, m, t, v, b, mem, st, ss, rfl, _⟩ := h
    rfl
  obtain ⟨a, m, t, v, b, mem, st, ss, rfl, hA, hv, hz, hss, k⟩ := h
  obtain ⟨dx, bv, n1, p, ws, h1, h2, h3, h4, h5⟩ := hA.tl
  obtain ⟨c, xs, rfl, hT, hxs⟩ := hv.tup_inv
  have hxl : xs.length = ss.length := by rw [hxs.length, List.length_map]
  refine ⟨_, (PSs.nox (pss_one (ps_ret (pe_callB (cr_allK K rfl) (by rfl) (g_all D) (by decide +kernel) (pa_cons (pe_lc (own := [("saying", 4)]) (g := gName 4) (tt := tYes) (by rfl) sc_Teller_keeps.nd (pi_tupK K (pv 1)) (blkOk_by (N := ["self", "sayings", "memory", "setting", "saying"]) (sc := defScope s_Teller_keeps) (by decide +kernel)) (fun _ _ _ _ _ => (pg_name (i := 4) sc_Teller_keeps.nd rfl (Or.inl rfl))) (fun _ _ _ _ _ => pts_nil) (fun _ _ _ _ _ => (pe_mtK K (pv 0) G_Teller_holds hr (pa_cons (pv 4) (pa_cons (pv 2) (pa_cons (pv 3) pa_nil)))))) pa_nil))))), ?_⟩
  walk_at "ga"
  refine lcT hT (fun i => ((ss.map fun s => holdsM b.names b.pieces mem st s).take i).map V.bl) rfl (fun Dd i x H' hD hx e hm => ?_) (fun Dd H3 hD e hm => ?_)
  · obtain ⟨d, hd1, hx2⟩ := hxs.at hx
    rw [List.getElem?_map] at hd1
    obtain ⟨q, hq, rfl⟩ := Option.map_eq_some_iff.mp hd1
    have hqm := hss q (List.mem_of_getElem? hq)
    walk_at "go"
    refine ⟨rfl, ?_⟩
    walk_at "ga"
    refine l_meth ?_
    walk_at "ga"
    refine l_Tm (e _ _ h1) (by rfl) ?_
    walk_at "ga"
    refine ⟨a, m, t, x, b, mem, st, q, rfl, hA.same e, td_same e hx2, (hA.ok.ov q hqm).1, b.says_inP q hqm, (hA.ok.ov q hqm).2, fun H4 e4 => ?_⟩
    refine lc_put hD (e.trans e4) (e4 _ _ hm) (szl (by rw [List.length_map, List.length_take, List.length_map]; omega)) ?_
    have hg : (ss.map fun s => holdsM b.names b.pieces mem st s)[i]? = some (holdsM b.names b.pieces mem st q) := by rw [List.getElem?_map, hq]; rfl
    show ((_ : List Bool).take (i + 1)).map V.bl = _
    rw [take_get hg, List.map_append]
    rfl
  · rw [hxl, show ss.length = (ss.map fun s => holdsM b.names b.pieces mem st s).length by rw [List.length_map], List.take_length] at hm
    walk_at "go"
    refine l_all (SqL.of hm) ?_
    have fin := k H3 e
    rw [show keepsM b ss mem st = (ss.map fun s => holdsM b.names b.pieces mem st s).all id by unfold keepsM; rw [List.all_map]; rfl] at fin
    exact fin
theorem ok_Teller_loss (D : Hd K mg) : OkM P w K mg base "Teller" "loss" ["self", "memory", "setting"] 18 (spLoss K) := by
  have G_Teller_holds := ok_Teller_holds (P := P) (w := w) (base := base) D 8
  obtain ⟨fd, F⟩ := F_Teller_loss D
  refine ⟨cl_Teller D, mt_Teller_loss D, fd, F.ok sc_Teller_loss (fun vs H Q E h => ?_) (fun cdv A outer sS H vs Q E hr h => ?_), F.bindsN fun _ _ _ _ _ _ us hl => match us, hl with | [_, _, _], _ => rfl⟩
  · obtain ⟨a, m, t, b, mem, st, rfl, _⟩ := h
    rfl
  obtain ⟨a, m, t, b, mem, st, rfl, hA, k⟩ := h
  obtain ⟨dx, bv, n1, p, ws, h1, h2, h3, h4, h5⟩ := hA.tl
  obtain ⟨c, x1, x2, x3, x4, x5, rfl, hT, _, _, _, _, g5⟩ := id h2.t5
  obtain ⟨a5, y5, rfl, hT5, hs5⟩ := g5.tup_inv
  have hyl : y5.length = b.wishes.length := by rw [hs5.length, List.length_map]
  have hw5 := hA.ok.w5
  refine ⟨_, (PSs.nox (pss_one (ps_ret (pe_callB (cr_sumK K rfl) (by rfl) (g_sum D) (by decide +kernel) (pa_cons (pe_lc (own := [("price", 3), ("saying", 4)]) (by rfl) sc_Teller_loss.nd (pi_tupK K (pe_ix (ix_tupK K) (pe_fldK K (pv 0)) pe_int (fun _ _ => rfl))) (blkOk_by (N := ["self", "memory", "setting", "price", "saying"]) (sc := defScope s_Teller_loss) (by decide +kernel)) (fun _ _ _ _ _ => (pg_tupK K (n := 2) rfl (pgs_cons (pg_name (i := 3) sc_Teller_loss.nd rfl (Or.inl rfl)) (pgs_cons (pg_name (i := 4) sc_Teller_loss.nd rfl (Or.inl rfl)) pgs_nil)))) (fun _ _ _ _ _ => (pts_one (pt_not (pt_val (pe_mtK K (pv 0) G_Teller_holds hr (pa_cons (pv 4) (pa_cons (pv 1) (pa_cons (pv 2) pa_nil)))))))) (fun _ _ _ _ _ => (pv 3))) pa_nil))))), ?_⟩
  walk_at "ga"
  refine l_fldA ?_
  walk_at "ga"
  refine l_Tbook D h1 ?_
  walk_at "ga"
  refine lcT hT5 (fun j => (((b.wishes.take j).filter fun p => !holdsM b.names b.pieces mem st p.2).map fun p => V.int p.1)) rfl (fun Dd i x H' hD hx e hm => ?_) (fun Dd H3 hD e hm => ?_)
  · obtain ⟨d, hd1, hx2⟩ := hs5.at hx
    rw [List.getElem?_map] at hd1
    obtain ⟨q, hq, rfl⟩ := Option.map_eq_some_iff.mp hd1
    have hqm := Book.wish_says q (List.mem_of_getElem? hq)
    obtain ⟨c0, u1, u2, rfl, hc0, hu1, hu2⟩ := (td_same e hx2).t2
    cases hu1.int_inv
    walk_at "go"
    refine ⟨rfl, ?_⟩
    walk_at "ga"
    refine l_meth ?_
    walk_at "ga"
    refine l_Tm (e _ _ h1) (by rfl) ?_
    walk_at "ga"
    refine ⟨a, m, t, u2, b, mem, st, q.2, rfl, hA.same e, hu2, (hA.ok.ov q.2 hqm).1, b.says_inP q.2 hqm, (hA.ok.ov q.2 hqm).2, fun H4 e4 => ?_⟩
    walk_at "go"
    refine l_i2 (fun e7 => ?_) (fun e7 => ?_)
    · walk_at "go"
      refine lc_put hD (e.trans e4) (e4 _ _ hm) (szl ?_) ?_
      · rw [List.length_map]
        have z1 := List.length_filter_le (fun p : Int × Say => !holdsM b.names b.pieces mem st p.2) (b.wishes.take i)
        rw [List.length_take] at z1
        omega
      · show (((b.wishes.take (i + 1)).filter _).map _) = _
        rw [filt_take _ _ hq, if_pos e7]
    · refine lc_skip (e.trans e4) (e4 _ _ hm) ?_
      show (((b.wishes.take (i + 1)).filter _).map _) = _
      rw [filt_take _ _ hq, if_neg (by rw [e7]; exact Bool.false_ne_true), List.append_nil]
  · rw [hyl, List.take_length] at hm
    walk_at "go"
    refine l_sum (ns := (b.wishes.filter fun p => !holdsM b.names b.pieces mem st p.2).map (·.1)) (by rw [List.map_map]; exact SqL.of hm) ?_
    exact k H3 e
end
/-! ### while, counted -/
def WTurn (N : Nat) (Pv : Nat → L2.St → Hp → Prop) (i : Nat) (D : Ends) (tb : TS) (σ : L2.St) (H : Hp) : Prop :=
  ∃ Nx : L2.St → Hp → Prop, (∀ σ' H', Nx σ' H' → ∃ m', m' < N - i ∧ ∃ j, m' = N - j ∧ Pv j σ' H') ∧ tb { D with nx := Nx, ct := Nx, bk := D.nx } σ H
theorem wturn {N : Nat} {Pv : Nat → L2.St → Hp → Prop} {i : Nat} {D : Ends} {tb : TS} {σ : L2.St} {H : Hp} (h : i < N) (q : tb { D with nx := Pv (i + 1), ct := Pv (i + 1), bk := D.nx } σ H) : WTurn N Pv i D tb σ H :=
  ⟨Pv (i + 1), fun σ' H' p => ⟨N - (i + 1), by omega, i + 1, rfl, p⟩, q⟩
theorem whileN {c : TT} {tb : TS} {D : Ends} {σ : L2.St} {H : Hp} (N : Nat) (Pv : Nat → L2.St → Hp → Prop) (h0 : Pv 0 σ H)
    (hs : ∀ i σ H, Pv i σ H → c σ H fun b H1 => if b = true then WTurn N Pv i D tb σ H1 else D.nx σ H1) : tWhile c tb D σ H := by
  refine ⟨fun m σ H => ∃ j, m = N - j ∧ Pv j σ H, ⟨N - 0, 0, rfl, h0⟩, ?_⟩
  rintro m σ H ⟨j, rfl, p⟩
  exact hs j σ H p
/-! ### all but some is as it was -/
def SameEx (S : List Addr) (H H' : Hp) : Prop := ∀ b o, b ∉ S → H b = some o → H' b = some o
def NTup (H : Hp) (S : List Addr) : Prop := ∀ l ∈ S, ∀ zs, ¬ Rd H l (.tup zs)
section
variable {K : PySem.W.Frag} {S T : List Addr} {H H' H1 H2 : Hp} {l : Addr} {o : HO}
theorem SameEx.refl : SameEx S H H := fun _ _ _ h => h
theorem SameEx.trans (a : SameEx S H H1) (b : SameEx S H1 H2) : SameEx S H H2 := fun c o n h => b c o n (a c o n h)
theorem SameEx.of_same (e : Same H H') : SameEx S H H' := fun b o _ h => e b o h
theorem SameEx.of_but (e : SameBut l H H') (h : l ∈ S) : SameEx S H H' := fun b o n q => e b o (fun z => n (z ▸ h)) q
theorem SameEx.upd (h : l ∈ S) : SameEx S H (upd H l o) := fun b u n q => by rw [upd_ne (fun z => n (by rw [z]; exact h))]; exact q
theorem SameEx.mono (h : ∀ x ∈ S, x ∈ T) (e : SameEx S H H') : SameEx T H H' := fun b o n q => e b o (fun z => n (h b z)) q
theorem SameEx.drop (h : H l = none) (e : SameEx (l :: S) H H') : SameEx S H H' := fun b o n q => e b o (fun z => by
  rcases List.mem_cons.mp z with rfl | z
  · rw [h] at q; cases q
  · exact n z) q
theorem SameEx.drop2 (h : H l = none) (hT : ∀ x ∈ T, x = l ∨ x ∈ S) (e : SameEx T H H') : SameEx S H H' := fun b o n q => e b o (fun z => by
  rcases hT b z with z | z
  · rw [z, h] at q; cases q
  · exact n z) q
theorem SameEx.same (h : ∀ l ∈ S, H l = none) (e : SameEx S H H') : Same H H' := fun b o q => e b o (fun z => by rw [h b z] at q; cases q) q
theorem SameEx.tup (hS : NTup H S) (e : SameEx S H H') : TupX K H H' := by
  intro a xs h
  rcases h with (h | ⟨q, h⟩) | h
  · exact .inl (.inl (e _ _ (fun z => hS a z xs (.inl h)) h))
  · exact .inl (.inr ⟨q, e _ _ (fun z => hS a z xs (.inr ⟨q, h⟩)) h⟩)
  · exact .inr h
theorem SameEx.tupE (hS : NTup H S) (e : SameEx S H H') {a : Addr} {xs : List V} (h : H a = some (.tup xs)) : H' a = some (.tup xs) := e _ _ (fun z => hS a z xs (.inl h)) h
theorem NTup.nil : NTup H [] := fun _ h => nomatch h
theorem NTup.cons (h : ∀ zs, ¬ Rd H l (.tup zs)) (r : NTup H S) : NTup H (l :: S) := fun x hx => by
  rcases List.mem_cons.mp hx with rfl | hx
  · exact h
  · exact r x hx
theorem nin3 {a b c x : Addr} (h1 : x ≠ a) (h2 : x ≠ b) (h3 : x ≠ c) : x ∉ [a, b, c] := by
  intro h
  rcases List.mem_cons.mp h with h | h
  · exact h1 h
  rcases List.mem_cons.mp h with h | h
  · exact h2 h
  exact h3 (List.mem_singleton.mp h)
theorem none3 {a b c : Addr} (h1 : H a = none) (h2 : H b = none) (h3 : H c = none) : ∀ l ∈ [a, b, c], H l = none := by
  intro l h
  rcases List.mem_cons.mp h with h | h
  · rw [h]; exact h1
  rcases List.mem_cons.mp h with h | h
  · rw [h]; exact h2
  rw [List.mem_singleton.mp h]; exact h3
theorem sub3 {a b c d x : Addr} (h : x ∈ [a, b, c]) : x = c ∨ x ∈ [a, b, d] := by
  rcases List.mem_cons.mp h with h | h
  · exact .inr (by rw [h]; exact List.mem_cons_self)
  rcases List.mem_cons.mp h with h | h
  · exact .inr (by rw [h]; exact List.mem_cons_of_mem _ List.mem_cons_self)
  exact .inl (List.mem_singleton.mp h)
theorem in3 {a b c : Addr} : c ∈ [a, b, c] := List.mem_cons_of_mem _ (List.mem_cons_of_mem _ List.mem_cons_self)
theorem DB.ex {P : Program} {w : World} {a : Addr} {kvs : List (List Bool × V)} (e : SameEx S H H') (hS : NTup H S) (ha : a ∉ S) (h : DB P w H a kvs) : DB P w H' a kvs := by
  obtain ⟨h1, h2, o, xs, h3, h4, h5⟩ := h
  exact ⟨h1, h2, o, xs, e _ _ ha h3, h4.keeps fun b ys q => e.tupE hS q, h5⟩
theorem DB.ext_at {P : Program} {w : World} {a : Addr} {kvs : List (List Bool × V)} (h : DB P w H a kvs) : ∃ f, H a = some (.ext f) := by
  obtain ⟨_, _, o, _, h3, _⟩ := h
  exact ⟨_, h3⟩
end
section
variable {P : Program} {w : World} {K : PySem.W.Frag} {mg : Str → Option Value} {base : Heap}
/-! ### answers_to -/
def answersM (b : Book) (mem foe : List Bool) : List (List Bool × Int × List Bool) :=
  ((settings b.fr.length).filter fun fr => keepsM b b.musts mem (foe ++ fr)).map fun fr => (fr, lossM b mem (foe ++ fr), behindM b mem (foe ++ fr))
def AnsV (K : PySem.W.Frag) (H : Hp) (v : V) (e : List Bool × Int × List Bool) : Prop := ∃ r x c, v = .ref r ∧ SqT K H r [x, .int e.2.1, .ref c] ∧ TD K H x (encB e.1) ∧ H c = some (.tup (e.2.2.map V.bl))
def spAns (K : PySem.W.Frag) : Sp := fun vs H Q _ => ∃ (a m f : Addr) (b : Book) (mem foe : List Bool), vs = [.ref a, .ref m, .ref f] ∧ TellAt K H a b ∧ b.Ok ∧ SqT K H m (mem.map V.bl) ∧ mem.length = b.pieces.length ∧ SqT K H f (foe.map V.bl) ∧ foe.length = b.foe.length ∧
  ∀ l ws H', Same H H' → H l = none → H' l = some (.lst ws) → Paired (AnsV K H') ws (answersM b mem foe) → Q (.ref l) H'
theorem filtmap_take {α β : Type} (f : α → Bool) (g : α → β) {l : List α} {i : Nat} {x : α} (h : l[i]? = some x) : ((l.take (i + 1)).filter f).map g = ((l.take i).filter f).map g ++ (if f x = true then [g x] else []) := filt_take f g h
theorem settings_mem_len {n : Nat} {s : List Bool} (h : s ∈ settings n) : s.length = n := by
  induction n generalizing s with
  | zero => rw [show settings 0 = [[]] from rfl] at h; rw [List.mem_singleton.mp h]; rfl
  | succ n ih =>
    rw [show settings (n + 1) = (settings n).flatMap fun s => [s ++ [false], s ++ [true]] from rfl] at h
    obtain ⟨t, ht, hs⟩ := List.mem_flatMap.mp h
    rcases List.mem_cons.mp hs with rfl | hs
    · rw [List.length_append, ih ht]; rfl
    · rw [List.mem_singleton.mp hs, List.length_append, ih ht]; rfl
theorem sc_answers_to : FnScope ["teller", "memory", "foe", "made", "friend"] ["teller", "memory", "foe"] (defScope s_answers_to) := ⟨rfl, rfl, rfl, by decide +kernel, rfl, by decide +kernel, by decide +kernel⟩
theorem ok_answers_to (D : Hd K mg) : OkG P w K mg base "answers_to" ["teller", "memory", "foe"] 19 (spAns K) := by
  have G_settings_of := ok_settings_of (P := P) (w := w) (base := base) D
  have G_Teller_keeps := ok_Teller_keeps (P := P) (w := w) (base := base) D
  have G_Teller_loss := ok_Teller_loss (P := P) (w := w) (base := base) D
  have G_Teller_behind := ok_Teller_behind (P := P) (w := w) (base := base) D
  obtain ⟨fd, F⟩ := F_answers_to D
  refine ⟨g_answers_to D, F.kp, fd, F.ok sc_answers_to (fun vs H Q E h => ?_) (fun cdv A outer sS H vs Q E hr h => ?_), F.bindsN fun _ _ _ _ _ _ us hl => match us, hl with | [_, _, _], _ => rfl⟩
  · obtain ⟨a, m, f, b, mem, foe, rfl, _⟩ := h
    rfl
  obtain ⟨a, m, f, b, mem, foe, rfl, hA, hb, hm, hml, hf, hfl, k⟩ := h
  obtain ⟨dx, bv, n1, p, ws, h1, h2, h3, h4, h5⟩ := id hA
  obtain ⟨c, x1, x2, x3, x4, x5, rfl, hT, g1, g2, g3, g4, g5⟩ := id h2.t5
  obtain ⟨c2, y2, rfl, hT2, hs2⟩ := g2.tup_inv
  cases hs2.strs_inv
  have hr2 := hb.fr2
  refine ⟨_, (PSs.nox (pss_cons (ps_set (i := 3) sc_answers_to.nd rfl (Or.inl rfl) (pe_lst pa_nil))
      (pss_cons (ps_for PassesOwn.never rfl (pi_listK K (pe_cl G_settings_of hr (pa_cons (pe_callB (cl_lenK K) (by rfl) (g_len D) (by decide +kernel) (pa_cons (pe_ix (ix_tupK K) (pe_fldK K (pv 0)) pe_int (fun _ _ => rfl)) pa_nil)) pa_nil))) (pg_name (i := 4) sc_answers_to.nd rfl (Or.inl rfl)) (pss_one (ps_if (pt_val (pe_mtK K (pv 0) G_Teller_keeps hr (pa_cons (pe_ix (ix_tupK K) (pe_fldK K (pv 0)) pe_int (fun _ _ => rfl)) (pa_cons (pv 1) (pa_cons (pe_op (op_catAK K) (pv 2) (pv 4)) pa_nil))))) (pss_one (ps_expr (pe_bmK K PySem.F.plainAttrs_list PySem.F.slot_list_append PySem.F.type_list_append mt_append (pv 3) (pa_cons (pe_tup (pa_cons (pv 4) (pa_cons (pe_mtK K (pv 0) G_Teller_loss hr (pa_cons (pv 1) (pa_cons (pe_op (op_catAK K) (pv 2) (pv 4)) pa_nil))) (pa_cons (pe_mtK K (pv 0) G_Teller_behind hr (pa_cons (pv 1) (pa_cons (pe_op (op_catAK K) (pv 2) (pv 4)) pa_nil))) pa_nil)))) pa_nil)))) pss_nil)))
      (pss_one (ps_ret (pv 3)))))), ?_⟩
  walk_at "ga"
  refine l_mkL0 fun l H1 e1 hl hm1 => ?_
  walk_at "ga"
  refine l_fldA ?_
  walk_at "ga"
  refine l_Tbook D (e1 _ _ h1) ?_
  walk_at "ga"
  rw [List.length_map]
  refine ⟨b.fr.length, rfl, by omega, fun l2 ws2 H2 e2 hl2 hm2 hw2 => ?_⟩
  have hl02 : H2 l = some (.lst []) := e2 _ _ hm1
  have e02 := e1.trans e2
  refine forL (SqL.of hm2) (fun i σ' H' => ∃ z, σ' = [some (.ref a), some (.ref m), some (.ref f), some (.ref l), z] ∧ SameBut l H2 H' ∧ ∃ us, H' l = some (.lst us) ∧
      Paired (AnsV K H') us ((((settings b.fr.length).take i).filter fun fr => keepsM b b.musts mem (foe ++ fr)).map fun fr => (fr, lossM b mem (foe ++ fr), behindM b mem (foe ++ fr))))
    ⟨_, rfl, SameBut.refl l H2, [], hl02, .nil⟩ (fun i σ' H' _ h => ?_) (fun i x σ' H' hx h => ?_) (fun σ' H' h => ?_)
  · obtain ⟨z, _, e3, _⟩ := h
    exact SqL.of (e3 _ _ (fun z => by rw [z] at hl2; rw [hm1] at hl2; cases hl2) hm2)
  · obtain ⟨z, rfl, e3, us, hm3, hp3⟩ := h
    have e03 : Same H H' := e3.same e02 hl
    obtain ⟨d, hd1, hx2⟩ := hw2.at hx
    rw [List.getElem?_map] at hd1
    obtain ⟨fr, hfr, rfl⟩ := Option.map_eq_some_iff.mp hd1
    have hx3 : TD K H' x (encB fr) := hx2.mono (e3.tup hl02)
    have hfl2 := settings_mem_len (List.mem_of_getElem? hfr)
    obtain ⟨c3, rfl, hc3⟩ := hx3.encB_inv
    have hlen : us.length < sizeLine := szl (by
      rw [hp3.length, List.length_map]
      have q1 := List.length_filter_le (fun fr => keepsM b b.musts mem (foe ++ fr)) ((settings b.fr.length).take i)
      rw [List.length_take, settings_len] at q1
      have q2 := Nat.pow_le_pow_right (n := 2) (by decide) hb.fr2
      omega)
    have hcat : ∀ {H0 : Hp} {Q0 : VK}, Same H' H0 → (∀ c H4, Same H0 H4 → SqT K H4 c ((foe ++ fr).map V.bl) → Q0 (.ref c) H4) → rCatA K (.ref f) (.ref c3) H0 Q0 := fun {H0} {Q0} e4 q =>
      l_catD (sqt_same (e03.trans e4) hf) (sqt_same e4 hc3) (sz (by rw [List.length_map, List.length_map, hfl, hfl2]; have := hb.foe2; omega)) (by rw [← List.map_append]; exact q)
    have hsl : (foe ++ fr).length = b.names.length := by unfold Book.names; rw [List.length_append, List.length_append, hfl, hfl2]
    walk_at "ga"
    refine l_meth ?_
    walk_at "ga"
    refine l_Tm (e03 _ _ h1) (by rfl) ?_
    walk_at "ga"
    refine l_fldA ?_
    walk_at "ga"
    refine l_Tbook D (e03 _ _ h1) ?_
    have hTn := sqt_same e03 hT
    walk_at "ga"
    refine hcat (Same.refl _) fun c4 H4 e4 hc4 => ?_
    have e04 := e03.trans e4
    refine ⟨a, m, c4, _, b, mem, foe ++ fr, b.musts, rfl, ⟨hA.same e04, hb, sqt_same e04 hm, hml, hc4, hsl⟩, td_same e04 g4, by have := hb.m3; omega, Book.musts_says, fun H5 e5 => ?_⟩
    refine ⟨_, rfl, ?_⟩
    refine l_i2 (fun hk => ?_) (fun hk => ?_)
    · walk_at "ga"
      refine ⟨tyv_list (SqL.of ((e4.trans e5) _ _ hm3)), ?_⟩
      walk_at "ga"
      refine l_meth ?_
      walk_at "ga"
      have e05 := e04.trans e5
      refine l_Tm (e05 _ _ h1) (by rfl) ?_
      walk_at "ga"
      refine hcat (e4.trans e5) fun c6 H6 e6 hc6 => ?_
      have e06 := e05.trans e6
      refine ⟨a, m, c6, b, mem, foe ++ fr, rfl, ⟨hA.same e06, hb, sqt_same e06 hm, hml, hc6, hsl⟩, fun H7 e7 => ?_⟩
      have e07 := e06.trans e7
      walk_at "ga"
      refine l_meth ?_
      walk_at "ga"
      refine l_Tm (e07 _ _ h1) (by rfl) ?_
      walk_at "ga"
      refine hcat ((e4.trans e5).trans (e6.trans e7)) fun c8 H8 e8 hc8 => ?_
      have e08 := e07.trans e8
      refine ⟨a, m, c8, b, mem, foe ++ fr, rfl, ⟨hA.same e08, hb, sqt_same e08 hm, hml, hc8, hsl⟩, fun c9 H9 e9 hc9 => ?_⟩
      walk_at "ga"
      refine l_mkT (by show 3 ≤ sizeLine; decide) fun c10 H10 e10 hn10 hc10 => ?_
      have e39 : Same H' H10 := (e4.trans e5).trans ((e6.trans e7).trans ((e8.trans e9).trans e10))
      have hm10 := e39 _ _ hm3
      walk_at "ga"
      refine l_appN hm10 hlen fun H11 e11 hm11 => ?_
      refine ⟨_, rfl, (e3.trans (SameBut.of_same e39)).trans e11, _, hm11, ?_⟩
      rw [filtmap_take _ _ hfr, if_pos hk]
      have t11 : TupX K H10 H11 := e11.tup hm10
      refine Paired.snoc (Paired.mapP hp3 fun v e hv => ?_) ?_
      · obtain ⟨r, x, c, rfl, q1, q2, q3⟩ := hv
        have ne : c ≠ l := ne_of q3 hm3 (fun z => nomatch z)
        exact ⟨r, x, c, rfl, t11 _ _ (sqt_same e39 q1), (td_same e39 q2).mono t11, e11 _ _ ne (e39 _ _ q3)⟩
      · have ne : c9 ≠ l := ne_of (e10 _ _ hc9) hm10 (fun z => nomatch z)
        exact ⟨c10, _, c9, rfl, t11 _ _ (SqT.of hc10), (td_same e39 hx3).mono t11, e11 _ _ ne (e10 _ _ hc9)⟩
    · walk_at "ga"
      have e35 : Same H' H5 := e4.trans e5
      refine ⟨_, rfl, e3.trans (SameBut.of_same e35), us, e35 _ _ hm3, ?_⟩
      rw [filtmap_take _ _ hfr, if_neg (by rw [hk]; exact Bool.false_ne_true), List.append_nil]
      refine Paired.mapP hp3 fun v e hv => ?_
      obtain ⟨r, x, c, rfl, q1, q2, q3⟩ := hv
      exact ⟨r, x, c, rfl, sqt_same e35 q1, td_same e35 q2, e35 _ _ q3⟩
  · obtain ⟨z, rfl, e3, us, hm3, hp3⟩ := h
    have hwl : ws2.length = (settings b.fr.length).length := by rw [hw2.length, List.length_map]
    rw [hwl, List.take_length] at hp3
    walk_at "ga"
    exact k l us H' (e3.same e02 hl) hl hm3 hp3
end
/-! ### rows of memories that only grow -/
section
variable {α : Type} [DecidableEq α]
def add1 (r : List α) (x : α) : List α := if x ∈ r then r else r ++ [x]
def addAll (r : List α) (xs : List α) : List α := xs.foldl add1 r
theorem add1_ext (r : List α) (x : α) : ∃ t, add1 r x = r ++ t := by
  unfold add1
  split
  · exact ⟨[], by rw [List.append_nil]⟩
  · exact ⟨[x], rfl⟩
theorem addAll_ext (xs : List α) : ∀ r : List α, ∃ t, addAll r xs = r ++ t := by
  induction xs with
  | nil => exact fun r => ⟨[], by rw [List.append_nil]; rfl⟩
  | cons x xs ih =>
    intro r
    obtain ⟨t, h⟩ := add1_ext r x
    obtain ⟨u, h2⟩ := ih (add1 r x)
    refine ⟨t ++ u, ?_⟩
    show addAll (add1 r x) xs = _
    rw [h2, h, List.append_assoc]
theorem mem_add1 {r : List α} {x y : α} : y ∈ add1 r x ↔ y ∈ r ∨ y = x := by
  unfold add1
  split
  · next h => exact ⟨.inl, fun z => z.elim id fun e => e ▸ h⟩
  · rw [List.mem_append, List.mem_singleton]
theorem mem_addAll {y : α} (xs : List α) : ∀ {r : List α}, y ∈ addAll r xs ↔ y ∈ r ∨ y ∈ xs := by
  induction xs with
  | nil => intro r; exact ⟨.inl, fun z => z.elim id fun e => nomatch e⟩
  | cons x xs ih =>
    intro r
    show y ∈ addAll (add1 r x) xs ↔ _
    rw [ih, mem_add1, List.mem_cons, or_assoc]
theorem nd_add1 {r : List α} {x : α} (h : r.Nodup) : (add1 r x).Nodup := by
  unfold add1
  split
  · exact h
  · next q =>
    refine List.nodup_append.mpr ⟨h, List.nodup_cons.mpr ⟨(fun z => nomatch z), List.nodup_nil⟩, fun a ha c hc => ?_⟩
    rw [List.mem_singleton.mp hc]
    rintro rfl
    exact q ha
theorem nd_addAll (xs : List α) : ∀ {r : List α}, r.Nodup → (addAll r xs).Nodup := by
  induction xs with
  | nil => exact fun h => h
  | cons x xs ih => exact fun h => ih (nd_add1 h)
theorem addAll_app (xs ys : List α) (r : List α) : addAll r (xs ++ ys) = addAll (addAll r xs) ys := List.foldl_append
theorem nodup_len : ∀ {l m : List α}, l.Nodup → (∀ x ∈ l, x ∈ m) → l.length ≤ m.length
  | [], _, _, _ => Nat.zero_le _
  | x :: l, m, h, s => by
    obtain ⟨h1, h2⟩ := List.nodup_cons.mp h
    have hx := s x (by simp)
    have ih := nodup_len (l := l) (m := m.erase x) h2 fun y hy => (List.mem_erase_of_ne (fun e => h1 (by rw [← e]; exact hy))).mpr (s y (List.mem_cons_of_mem _ hy))
    rw [List.length_erase_of_mem hx] at ih
    have := List.length_pos_of_mem hx
    rw [List.length_cons]
    omega
end
theorem settings_all : ∀ {n : Nat} {s : List Bool}, s.length = n → s ∈ settings n
  | 0, s, h => by rw [List.length_eq_zero_iff.mp h]; exact List.mem_singleton.mpr rfl
  | n + 1, s, h => by
    show s ∈ (settings n).flatMap fun s => [s ++ [false], s ++ [true]]
    have hne : s ≠ [] := fun e => by rw [e] at h; cases h
    rw [← List.dropLast_concat_getLast hne]
    refine List.mem_flatMap.mpr ⟨s.dropLast, settings_all (by rw [List.length_dropLast, h]; rfl), ?_⟩
    cases s.getLast hne <;> simp
theorem bools_len {n : Nat} {l : List (List Bool)} (h : l.Nodup) (hl : ∀ x ∈ l, x.length = n) : l.length ≤ 2 ^ n := by
  have := nodup_len h fun x hx => settings_all (hl x hx)
  rwa [settings_len] at this
/-! ### the game -/
abbrev Ans := List Bool × Int × List Bool
def movesM (b : Book) (mem : List Bool) : List (List Bool × List Ans) :=
  ((settings b.foe.length).filter fun foe => keepsM b b.proms mem (foe ++ List.replicate b.fr.length false)).map fun foe => (foe, answersM b mem foe)
def behindsOf (mvs : List (List Bool × List Ans)) : List (List Bool) := mvs.flatMap fun mv => mv.2.map (·.2.2)
def rowsM (b : Book) : Nat → List (List Bool)
  | 0 => [firstM b]
  | i + 1 => match (rowsM b i)[i]? with
    | some mem => addAll (rowsM b i) (behindsOf (movesM b mem))
    | none => rowsM b i
@[irreducible] def rowM (b : Book) : List (List Bool) := rowsM b 16
theorem rowM_def (b : Book) : rowM b = rowsM b 16 := by unfold rowM; rfl
def ansD (R : List (List Bool)) (e : Ans) : PyData := .tuple [encB e.1, .int e.2.1, .int (ixOf e.2.2 R : Nat)]
def mvD (R : List (List Bool)) (mv : List Bool × List Ans) : PyData := .tuple [encB mv.1, .tuple (mv.2.map (ansD R))]
def nodeD (b : Book) (R : List (List Bool)) (mem : List Bool) : PyData := .tuple [encB mem, .tuple ((movesM b mem).map (mvD R))]
theorem ansD_ext {R t : List (List Bool)} {e : Ans} (h : e.2.2 ∈ R) : ansD (R ++ t) e = ansD R e := by unfold ansD; rw [ixOf_append h]
theorem anss_ext {R t : List (List Bool)} {es : List Ans} (h : ∀ x ∈ es.map (·.2.2), x ∈ R) : es.map (ansD (R ++ t)) = es.map (ansD R) :=
  List.map_congr_left fun e he => ansD_ext (h _ (List.mem_map.mpr ⟨e, he, rfl⟩))
theorem mvs_ext {R t : List (List Bool)} {ms : List (List Bool × List Ans)} (h : ∀ x ∈ behindsOf ms, x ∈ R) : ms.map (mvD (R ++ t)) = ms.map (mvD R) :=
  List.map_congr_left fun mv hm => by
    unfold mvD
    rw [anss_ext fun x hx => h x (List.mem_flatMap.mpr ⟨mv, hm, hx⟩)]
theorem behindM_len (b : Book) (mem st : List Bool) : (behindM b mem st).length = b.pieces.length := by unfold behindM; rw [List.length_map]
theorem firstM_len (b : Book) : (firstM b).length = b.pieces.length := by unfold firstM; rw [List.length_map]
theorem behindsOf_len {b : Book} {mem x : List Bool} (h : x ∈ behindsOf (movesM b mem)) : x.length = b.pieces.length := by
  obtain ⟨mv, hmv, hx⟩ := List.mem_flatMap.mp h
  obtain ⟨e, he, rfl⟩ := List.mem_map.mp hx
  unfold movesM at hmv
  obtain ⟨foe, _, rfl⟩ := List.mem_map.mp hmv
  unfold answersM at he
  obtain ⟨fr, _, rfl⟩ := List.mem_map.mp he
  exact behindM_len _ _ _
theorem rowsM_ok (b : Book) : ∀ i, (rowsM b i).Nodup ∧ ∀ x ∈ rowsM b i, x.length = b.pieces.length
  | 0 => ⟨List.nodup_cons.mpr ⟨(fun z => nomatch z), List.nodup_nil⟩, fun x hx => by rw [List.mem_singleton.mp hx, firstM_len]⟩
  | i + 1 => by
    obtain ⟨h1, h2⟩ := rowsM_ok b i
    show (match (rowsM b i)[i]? with | some mem => addAll (rowsM b i) (behindsOf (movesM b mem)) | none => rowsM b i).Nodup ∧ ∀ x ∈ (match (rowsM b i)[i]? with | some mem => addAll (rowsM b i) (behindsOf (movesM b mem)) | none => rowsM b i), _
    cases (rowsM b i)[i]? with
    | none => exact ⟨h1, h2⟩
    | some mem => exact ⟨nd_addAll _ h1, fun x hx => ((mem_addAll _).mp hx).elim (h2 x) behindsOf_len⟩
theorem rowsM_step {b : Book} {i : Nat} {mem : List Bool} (h : (rowsM b i)[i]? = some mem) : rowsM b (i + 1) = addAll (rowsM b i) (behindsOf (movesM b mem)) := by
  show (match (rowsM b i)[i]? with | some mem => addAll (rowsM b i) (behindsOf (movesM b mem)) | none => rowsM b i) = _
  rw [h]
theorem rowsM_stop {b : Book} {i : Nat} (h : (rowsM b i).length ≤ i) : ∀ j, i ≤ j → rowsM b j = rowsM b i
  | 0, hj => by rw [Nat.le_zero.mp hj]
  | j + 1, hj => by
    by_cases e : i = j + 1
    · rw [e]
    · have ih := rowsM_stop h j (by omega)
      show (match (rowsM b j)[j]? with | some mem => addAll (rowsM b j) (behindsOf (movesM b mem)) | none => rowsM b j) = _
      rw [List.getElem?_eq_none (by rw [ih]; omega)]
      exact ih
theorem rowsM_16 {b : Book} (hb : b.Ok) (i : Nat) : (rowsM b i).length ≤ 16 := by
  have h1 := bools_len (rowsM_ok b i).1 (rowsM_ok b i).2
  have h2 := Nat.pow_le_pow_right (n := 2) (by decide) hb.p4
  exact Nat.le_trans h1 h2
/-- where the growing stops -/
theorem rowM_eq {b : Book} (hb : b.Ok) {i : Nat} (h : (rowsM b i).length ≤ i) : rowM b = rowsM b i := by
  unfold rowM
  by_cases hi : i ≤ 16
  · exact rowsM_stop h 16 hi
  · exact (rowsM_stop (rowsM_16 hb 16) i (by omega)).symm
/-- each memory's memories behind are there -/
theorem rowsM_closed (b : Book) : ∀ i, ∀ j mem, j < i → (rowsM b i)[j]? = some mem → ∀ x ∈ behindsOf (movesM b mem), x ∈ rowsM b i
  | 0, j, mem, h, _ => by omega
  | i + 1, j, mem, h, hg => by
    intro x hx
    cases hi : (rowsM b i)[i]? with
    | none =>
      have e : rowsM b (i + 1) = rowsM b i := by
        show (match (rowsM b i)[i]? with | some mem => addAll (rowsM b i) (behindsOf (movesM b mem)) | none => rowsM b i) = _
        rw [hi]
      rw [e] at hg ⊢
      have hj : j < i := by
        have := (List.getElem?_eq_some_iff.mp hg).1
        have := List.getElem?_eq_none_iff.mp hi
        omega
      exact rowsM_closed b i j mem hj hg x hx
    | some m2 =>
      have hil := (List.getElem?_eq_some_iff.mp hi).1
      rw [rowsM_step hi] at hg ⊢
      obtain ⟨t, ht⟩ := addAll_ext (behindsOf (movesM b m2)) (rowsM b i)
      rw [ht, List.getElem?_append_left (by omega)] at hg
      by_cases e : j = i
      · subst e
        rw [hi] at hg
        cases hg
        exact (mem_addAll _).mpr (.inr hx)
      · exact (mem_addAll _).mpr (.inl (rowsM_closed b i j mem (by omega) hg x hx))
theorem rowM_closed {b : Book} (hb : b.Ok) {mem : List Bool} (h : mem ∈ rowM b) : ∀ x ∈ behindsOf (movesM b mem), x ∈ rowM b := by
  obtain ⟨j, hj, e⟩ := List.mem_iff_getElem.mp h
  have h16 := rowsM_16 hb 16
  have e2 : (rowM b)[j]? = some mem := List.getElem?_eq_some_iff.mpr ⟨hj, e⟩
  rw [rowM_def] at hj e2 ⊢
  exact rowsM_closed b 16 j mem (by omega) e2
theorem rowM_0 {b : Book} : (rowM b)[0]? = some (firstM b) := by
  have : ∀ i, (rowsM b i)[0]? = some (firstM b) := by
    intro i
    induction i with
    | zero => rfl
    | succ i ih =>
      show (match (rowsM b i)[i]? with | some mem => addAll (rowsM b i) (behindsOf (movesM b mem)) | none => rowsM b i)[0]? = _
      cases (rowsM b i)[i]? with
      | none => exact ih
      | some m =>
        obtain ⟨t, ht⟩ := addAll_ext (behindsOf (movesM b m)) (rowsM b i)
        show (addAll (rowsM b i) (behindsOf (movesM b m)))[0]? = _
        rw [ht, List.getElem?_append_left (List.getElem?_eq_some_iff.mp ih).1]
        exact ih
  rw [rowM_def]
  exact this 16
theorem rowM_16 {b : Book} (hb : b.Ok) : (rowM b).length ≤ 16 := by rw [rowM_def]; exact rowsM_16 hb 16
section
variable {P : Program} {w : World} {K : PySem.W.Frag} {mg : Str → Option Value} {base : Heap}
theorem l_make {C : Addr} {sp : Sp} {dvs : List V} {E : XK} {t : TA} {σ : L2.St} {H : Hp} {Q : VK} (q : t σ H fun vs H1 => ∀ x dx, H1 x = none → H1 dx = none → dx ≠ x →
  sp (.ref x :: (vs ++ dvs)) (upd (upd H1 dx (.own x)) x (.ins C dx [])) (fun v H2 => v = .non ∧ Q (.ref x) H2) E) : tMake C sp dvs E t σ H Q := q
theorem l_rep {K : PySem.W.Frag} {H : Hp} {Q : VK} {l : Addr} {x : V} {n : Nat} (h : SqT K H l [x]) (h1 : 1 ≤ n) (h2 : n ≤ 1000) (q : ∀ c H', Same H H' → SqT K H' c (List.replicate n x) → Q (.ref c) H') : rRepA K (.ref l) (.int (n : Nat)) H Q := by
  refine ⟨l, n, [x], rfl, rfl, h, (fun z => nomatch z), by omega, by omega, by show 1 ≤ 1000; decide, fun e => ?_, fun e p hp => ?_⟩
  · have e1 : n = 1 := by omega
    subst e1
    exact q l H (Same.refl H) h
  · refine q p _ (same_new hp) (SqT.of ?_)
    rw [upd_same, Int.toNat_natCast]
    congr 2
    clear q h1 h2 e
    induction n with
    | zero => rfl
    | succ n ih => rw [List.replicate_succ, List.flatten_cons, ih, List.replicate_succ]; rfl
theorem l_bnotin {P : Program} {w : World} {ty td : TE} {σ : L2.St} {H : Hp} {Q : VK} (q : ty σ H fun y H1 => td σ H1 fun x H2 => ∃ a b kvs k, x = .ref a ∧ y = .ref b ∧ DB P w H2 a kvs ∧ H2 b = some (.tup (k.map V.bl)) ∧ Q (.bl (!(valV kvs k).isSome)) H2) : tBNotIn P w ty td σ H Q := q
theorem l_bget {P : Program} {w : World} {ty td : TE} {σ : L2.St} {H : Hp} {Q : VK} (q : td σ H fun x H1 => ty σ H1 fun y H2 => ∃ a b kvs k v, x = .ref a ∧ y = .ref b ∧ DB P w H2 a kvs ∧ H2 b = some (.tup (k.map V.bl)) ∧ valV kvs k = some v ∧ Q v H2) : tBGet P w td ty σ H Q := q
theorem l_bput {P : Program} {w : World} {ty td tv : TE} {σ : L2.St} {H : Hp} {D : Ends} (q : tv σ H fun v H1 => td σ H1 fun x H2 => ty σ H2 fun y H3 => ∃ a b kvs k, x = .ref a ∧ y = .ref b ∧ DB P w H3 a kvs ∧ H3 b = some (.tup (k.map V.bl)) ∧ kvs.length < sizeLine ∧
  ∀ u, (∃ f, u = HO.ext f) → DB P w (upd H3 a u) a (putK kvs k v) → D.nx σ (upd H3 a u)) : sBPut P w td ty tv D σ H := q
def vRow (R : List (List Bool)) (x : List Bool) : Option V := if x ∈ R then some (.int (ixOf x R : Nat)) else none
/-- the memories met: their numbers, and in order -/
structure RowAt (P : Program) (w : World) (K : PySem.W.Frag) (H : Hp) (met row : Addr) (R : List (List Bool)) : Prop where
  db : ∃ kvs, DB P w H met kvs ∧ kvs.length ≤ R.length ∧ ∀ x, valV kvs x = vRow R x
  ls : ∃ rs, H row = some (.lst rs) ∧ TDs K H rs (R.map encB)
theorem RowAt.ex {H H' : Hp} {met row : Addr} {R : List (List Bool)} {S : List Addr} (e : SameEx S H H') (hS : NTup H S) (h1 : met ∉ S) (h2 : row ∉ S) (h : RowAt P w K H met row R) : RowAt P w K H' met row R := by
  obtain ⟨⟨kvs, a1, a2, a3⟩, rs, b1, b2⟩ := h
  exact ⟨⟨kvs, a1.ex e hS h1, a2, a3⟩, rs, e _ _ h2 b1, b2.mono (e.tup hS)⟩
theorem RowAt.same {H H' : Hp} {met row : Addr} {R : List (List Bool)} (e : Same H H') (h : RowAt P w K H met row R) : RowAt P w K H' met row R :=
  RowAt.ex (S := []) (SameEx.of_same e) NTup.nil (fun z => nomatch z) (fun z => nomatch z) h
theorem vRow_snoc {R : List (List Bool)} {x : List Bool} (h : x ∉ R) (y : List Bool) : (if y = x then some (V.int (R.length : Nat)) else vRow R y) = vRow (R ++ [x]) y := by
  unfold vRow
  by_cases e : y = x
  · subst e
    rw [if_pos rfl, if_pos (by simp)]
    congr 3
    have : ∀ R : List (List Bool), y ∉ R → ixOf y (R ++ [y]) = R.length := by
      intro R
      induction R with
      | nil => intro _; show (if y = y then 0 else _) = _; rw [if_pos rfl]; rfl
      | cons z R ih =>
        intro hz
        show (if z = y then 0 else ixOf y (R ++ [y]) + 1) = _
        rw [if_neg (fun q => hz (by rw [q]; simp)), ih (fun q => hz (List.mem_cons_of_mem _ q))]
        rfl
    exact (this R h).symm
  · rw [if_neg e]
    by_cases hy : y ∈ R
    · rw [if_pos hy, if_pos (by simp [hy]), ixOf_append hy]
    · rw [if_neg hy, if_neg (by simp [hy, e])]
theorem nodes_ext {b : Book} {R t : List (List Bool)} {ms : List (List Bool)} (h : ∀ m ∈ ms, ∀ x ∈ behindsOf (movesM b m), x ∈ R) : ms.map (nodeD b (R ++ t)) = ms.map (nodeD b R) :=
  List.map_congr_left fun m hm => by
    unfold nodeD
    rw [mvs_ext (h m hm)]
theorem behindsOf_app (a c : List (List Bool × List Ans)) : behindsOf (a ++ c) = behindsOf a ++ behindsOf c := List.flatMap_append
theorem DB.nt {P : Program} {w : World} {H : Hp} {a : Addr} {kvs : List (List Bool × V)} (h : DB P w H a kvs) : ∀ zs, ¬ Rd H a (.tup zs) := by
  obtain ⟨f, hf⟩ := h.ext_at
  exact nt_ext hf
theorem RowAt.nt {H : Hp} {met row : Addr} {R : List (List Bool)} (hR : RowAt P w K H met row R) {l : Addr} {xs : List V} (h : H l = some (.lst xs)) : NTup H [met, row, l] := by
  obtain ⟨⟨kvs, a1, _⟩, rs, b1, _⟩ := hR
  exact NTup.cons a1.nt (NTup.cons (nt_lst b1) (NTup.cons (nt_lst h) NTup.nil))
theorem RowAt.ne1 {H : Hp} {met row : Addr} {R : List (List Bool)} (hR : RowAt P w K H met row R) {l : Addr} (h : H l = none) : l ≠ met := by
  obtain ⟨kvs, a1, _⟩ := hR.db
  obtain ⟨f, hf⟩ := a1.ext_at
  exact (ne_of_none hf h).symm
theorem RowAt.ne2 {H : Hp} {met row : Addr} {R : List (List Bool)} (hR : RowAt P w K H met row R) {l : Addr} (h : H l = none) : l ≠ row := by
  obtain ⟨rs, b1, _⟩ := hR.ls
  exact (ne_of_none b1 h).symm
/-- the moves that have been gone through -/
def mpre (b : Book) (mem : List Bool) (j : Nat) : List (List Bool × List Ans) :=
  (((settings b.foe.length).take j).filter fun foe => keepsM b b.proms mem (foe ++ List.replicate b.fr.length false)).map fun foe => (foe, answersM b mem foe)
theorem mpre_step {b : Book} {mem : List Bool} {j : Nat} {foe : List Bool} (h : (settings b.foe.length)[j]? = some foe) :
    mpre b mem (j + 1) = mpre b mem j ++ (if keepsM b b.proms mem (foe ++ List.replicate b.fr.length false) = true then [(foe, answersM b mem foe)] else []) := filt_take _ _ h
theorem paired_at {α β : Type} {F : α → β → Prop} : ∀ {l : List α} {m : List β} {i : Nat} {v : α}, Paired F l m → l[i]? = some v → ∃ e, m[i]? = some e ∧ F v e
  | _, _, 0, _, .cons a _, e => by cases e; exact ⟨_, rfl, a⟩
  | _, _, i + 1, _, .cons _ r, e => by
    obtain ⟨v, h1, h2⟩ := paired_at (i := i) r (by simpa using e)
    exact ⟨v, by simpa using h1, h2⟩
theorem nin2 {a b x : Addr} (h1 : x ≠ a) (h2 : x ≠ b) : x ∉ [a, b] := by
  intro h
  rcases List.mem_cons.mp h with h | h
  · exact h1 h
  exact h2 (List.mem_singleton.mp h)
theorem sub2 {a b d x : Addr} (h : x ∈ [a, b]) : x ∈ [a, b, d] := by
  rcases List.mem_cons.mp h with h | h
  · rw [h]; exact List.mem_cons_self
  rw [List.mem_singleton.mp h]; exact List.mem_cons_of_mem _ List.mem_cons_self
/-- a new memory is put in -/
theorem RowAt.put {H H2 : Hp} {met row : Addr} {R : List (List Bool)} {kvs : List (List Bool × V)} {u : HO} {key : List Bool} {cb : Addr} {f : Heap → Prop} (hn : met ≠ row) (h : RowAt P w K H met row R) (h1 : kvs.length ≤ R.length) (h2 : ∀ x, valV kvs x = vRow R x) (hm : H met = some (.ext f)) (hx : key ∉ R)
    (hu : ∃ f, u = HO.ext f) (hd : DB P w (upd H met u) met (putK kvs key (.int (R.length : Nat)))) (hcb : H cb = some (.tup (key.map V.bl))) (e : SameBut row (upd H met u) H2) {rs : List V} (hrs : H row = some (.lst rs)) (hrd : TDs K H rs (R.map encB)) (h3 : H2 row = some (.lst (rs ++ [.ref cb]))) :
    SameEx [met, row] H H2 ∧ RowAt P w K H2 met row (R ++ [key]) := by
  obtain ⟨g, rfl⟩ := hu
  have ncb : cb ≠ met := ne_of hcb hm (fun z => nomatch z)
  have hrs' : upd H met (.ext g) row = some (.lst rs) := by rw [upd_ne hn.symm]; exact hrs
  have t1 : TupX K H (upd H met (.ext g)) := TupX.up (nt_ext hm)
  have t2 : TupX K (upd H met (.ext g)) H2 := e.tup hrs'
  have hd2 : DB P w H2 met (putK kvs key (.int (R.length : Nat))) := hd.ex (S := [row]) (SameEx.of_but e (List.mem_singleton.mpr rfl)) (NTup.cons (nt_lst hrs') NTup.nil) (fun z => hn (List.mem_singleton.mp z))
  refine ⟨(SameEx.upd List.mem_cons_self).trans (SameEx.of_but e (List.mem_cons_of_mem _ List.mem_cons_self)), ⟨⟨_, hd2, ?_, fun x => ?_⟩, _, h3, ?_⟩⟩
  · have := length_putK kvs key (.int (R.length : Nat))
    rw [List.length_append]
    show _ ≤ R.length + 1
    omega
  · rw [valV_put, h2, vRow_snoc hx]
  · rw [List.map_append]
    refine TDs.append ((hrd.mono t1).mono t2) (.one (td_encB ?_))
    exact t2 _ _ (t1 _ _ (SqT.of hcb))
def spGameOf (K : PySem.W.Frag) : Sp := fun vs H Q _ => ∃ (v : V) (b : Book), vs = [v] ∧ TD K H v b.enc ∧ b.Ok ∧ NewL K ((rowM b).map (nodeD b (rowM b))) H Q
theorem sc_game_of : FnScope ["book", "teller", "met", "row", "made", "memory", "moves", "foe", "answers", "friend", "loss", "behind"] ["book"] (defScope s_game_of) := ⟨rfl, rfl, rfl, by decide +kernel, rfl, by decide +kernel, by decide +kernel⟩
theorem ok_game_of (D : Hd K mg) : OkG P w K mg base "game_of" ["book"] 20 (spGameOf K) := by
  have G_settings_of := ok_settings_of (P := P) (w := w) (base := base) D
  have G_Teller_keeps := ok_Teller_keeps (P := P) (w := w) (base := base) D
  have G_answers_to := ok_answers_to (P := P) (w := w) (base := base) D
  have G_Teller_first := ok_Teller_first (P := P) (w := w) (base := base) D
  have G_Teller_init := ok_Teller_init (P := P) (w := w) (base := base) D
  obtain ⟨fd, F⟩ := F_game_of D
  refine ⟨g_game_of D, F.kp, fd, F.ok sc_game_of (fun vs H Q E h => ?_) (fun cdv A outer sS H vs Q E hr h => ?_), F.bindsN fun _ _ _ _ _ _ us hl => match us, hl with | [_], _ => rfl⟩
  · obtain ⟨v, b, rfl, _⟩ := h
    rfl
  obtain ⟨v, b, rfl, hv, hb, k⟩ := h
  obtain ⟨c, x1, x2, x3, x4, x5, rfl, hT, g1, g2, g3, g4, g5⟩ := id hv.t5
  obtain ⟨c1, y1, rfl, hT1, hs1⟩ := g1.tup_inv
  cases hs1.strs_inv
  obtain ⟨c2, y2, rfl, hT2, hs2⟩ := g2.tup_inv
  cases hs2.strs_inv
  refine ⟨_, (PSs.nox (pss_cons (ps_set (i := 1) sc_game_of.nd rfl (Or.inl rfl) (pe_mkK K G_Teller_init hr (pa_cons (pv 0) pa_nil)))
      (pss_cons (ps_set (i := 2) sc_game_of.nd rfl (Or.inl rfl) (pe_dispB (hu_of hr) (pe_mt0K K (pv 1) G_Teller_first hr) pe_int))
      (pss_cons (ps_set (i := 3) sc_game_of.nd rfl (Or.inl rfl) (pe_lst (pa_cons (pe_mt0K K (pv 1) G_Teller_first hr) pa_nil)))
      (pss_cons (ps_set (i := 4) sc_game_of.nd rfl (Or.inl rfl) (pe_lst pa_nil))
      (pss_cons (ps_while PassesOwn.never (pt_cmpR op_lt (pe_callB (cl_lenK K) (by rfl) (g_len D) (by decide +kernel) (pa_cons (pv 4) pa_nil)) (pe_callB (cl_lenK K) (by rfl) (g_len D) (by decide +kernel) (pa_cons (pv 3) pa_nil)) (nomark _)) (pss_cons (ps_set (i := 5) sc_game_of.nd rfl (Or.inl rfl) (pe_ix (ix_listK K) (pv 3) (pe_callB (cl_lenK K) (by rfl) (g_len D) (by decide +kernel) (pa_cons (pv 4) pa_nil)) (fun _ _ => rfl)))
      (pss_cons (ps_set (i := 6) sc_game_of.nd rfl (Or.inl rfl) (pe_lst pa_nil))
      (pss_cons (ps_for PassesOwn.never rfl (pi_listK K (pe_cl G_settings_of hr (pa_cons (pe_callB (cl_lenK K) (by rfl) (g_len D) (by decide +kernel) (pa_cons (pe_ix (ix_tupK K) (pv 0) pe_int (fun _ _ => rfl)) pa_nil)) pa_nil))) (pg_name (i := 7) sc_game_of.nd rfl (Or.inl rfl)) (pss_one (ps_if (pt_val (pe_mtK K (pv 1) G_Teller_keeps hr (pa_cons (pe_ix (ix_tupK K) (pv 0) pe_int (fun _ _ => rfl)) (pa_cons (pv 5) (pa_cons (pe_op (op_catAK K) (pv 7) (pe_op (op_repAK K) (pe_tup (pa_cons pe_bl pa_nil)) (pe_callB (cl_lenK K) (by rfl) (g_len D) (by decide +kernel) (pa_cons (pe_ix (ix_tupK K) (pv 0) pe_int (fun _ _ => rfl)) pa_nil)))) pa_nil))))) (pss_cons (ps_set (i := 8) sc_game_of.nd rfl (Or.inl rfl) (pe_lst pa_nil))
      (pss_cons (ps_for PassesOwn.never rfl (pi_listK K (pe_cl G_answers_to hr (pa_cons (pv 1) (pa_cons (pv 5) (pa_cons (pv 7) pa_nil))))) (pg_tupK K (n := 3) rfl (pgs_cons (pg_name (i := 9) sc_game_of.nd rfl (Or.inl rfl)) (pgs_cons (pg_name (i := 10) sc_game_of.nd rfl (Or.inl rfl)) (pgs_cons (pg_name (i := 11) sc_game_of.nd rfl (Or.inl rfl)) pgs_nil)))) (C8.pss_cut (ps_if (pt_cmp (pc_dnotinB (hu_of hr) (pv 11) (pv 2))) (pss_cons (ps_dputB (hu_of hr) (pv 2) (pv 11) (pe_callB (cl_lenK K) (by rfl) (g_len D) (by decide +kernel) (pa_cons (pv 3) pa_nil)) rfl)
      (pss_one (ps_expr (pe_bmK K PySem.F.plainAttrs_list PySem.F.slot_list_append PySem.F.type_list_append mt_append (pv 3) (pa_cons (pv 11) pa_nil))))) pss_nil)
      (pss_one (ps_expr (pe_bmK K PySem.F.plainAttrs_list PySem.F.slot_list_append PySem.F.type_list_append mt_append (pv 8) (pa_cons (pe_tup (pa_cons (pv 9) (pa_cons (pv 10) (pa_cons (pe_dgetB (hu_of hr) (pv 2) (pv 11) (fun _ _ => rfl)) pa_nil)))) pa_nil))))))
      (pss_one (ps_expr (pe_bmK K PySem.F.plainAttrs_list PySem.F.slot_list_append PySem.F.type_list_append mt_append (pv 6) (pa_cons (pe_tup (pa_cons (pv 7) (pa_cons (pe_callTy (cl_tupK K) (by rfl) (g_tuple D) (by decide +kernel) (pa_cons (pv 8) pa_nil)) pa_nil))) pa_nil)))))) pss_nil)))
      (pss_one (ps_expr (pe_bmK K PySem.F.plainAttrs_list PySem.F.slot_list_append PySem.F.type_list_append mt_append (pv 4) (pa_cons (pe_tup (pa_cons (pv 5) (pa_cons (pe_callTy (cl_tupK K) (by rfl) (g_tuple D) (by decide +kernel) (pa_cons (pv 6) pa_nil)) pa_nil))) pa_nil))))))))
      (pss_one (ps_ret (pv 4))))))))), ?_⟩
  walk_at "ga"
  refine l_make ?_
  walk_at "ga"
  intro a dx ha0 hdx0 hne
  have e0 : Same H (upd (upd H dx (.own a)) a (.ins (He.ga K "Teller") dx [])) := same_mut (same_new hdx0) ha0
  refine ⟨a, dx, _, b, rfl, upd_same, td_same e0 hv, hb, fun H0 e1 hA => ⟨rfl, ?_⟩⟩
  have e00 : Same H H0 := e1.same e0 ha0
  clear e1 e0
  obtain ⟨dx', bv, n1, p, ws, h1, h2, h3, h4, h5⟩ := id hA
  walk_at "ga"
  intro met u hmet hu
  obtain ⟨f0, hf0⟩ := hu
  walk_at "ga"
  have s1 : Same H0 (upd H0 met u) := same_new hmet
  refine l_meth ?_
  walk_at "ga"
  refine l_Tm (s1 _ _ h1) (by rfl) ?_
  walk_at "ga"
  refine ⟨a, b, rfl, hA.same s1, hb, fun m1 H1 e1 hm1 => ?_⟩
  walk_at "ga"
  refine ⟨m1, firstM b, rfl, hm1, e1 _ _ upd_same, fun u' hu' hdb => ?_⟩
  have s2 : Same H0 (upd H1 met u') := same_mut (s1.trans e1) hmet
  revert hdb s2
  obtain ⟨f1, rfl⟩ := hu'
  have hmt : upd H1 met (.ext f1) met = some (.ext f1) := upd_same
  revert hmt
  generalize upd H1 met (.ext f1) = H2
  intro hmt hdb s2
  walk_at "ga"
  refine l_meth ?_
  walk_at "ga"
  refine l_Tm (s2 _ _ h1) (by rfl) ?_
  walk_at "ga"
  refine ⟨a, b, rfl, hA.same s2, hb, fun m2 H3 e3 hm2 => ?_⟩
  walk_at "ga"
  refine l_mkL (by show 1 ≤ sizeLine; decide) fun row H4 e4 hrow0 hrow => ?_
  walk_at "ga"
  refine l_mkL0 fun made H5 e5 hmade0 hmade => ?_
  walk_at "ga"
  have s5 : Same H0 H5 := (s2.trans e3).trans (e4.trans e5)
  have hR0 : RowAt P w K H5 met row [firstM b] := by
    refine ⟨⟨_, hdb.same ((e3.trans e4).trans e5), Nat.le_refl _, fun x => ?_⟩, _, e5 _ _ hrow, .one (td_encB (SqT.of ((e4.trans e5) _ _ hm2)))⟩
    unfold vRow
    by_cases e : firstM b = x
    · rw [valV_pos e, if_pos (by rw [← e]; exact List.mem_singleton.mpr rfl)]
      subst e
      show some (V.int 0) = some (V.int ((if firstM b = firstM b then 0 else _ : Nat) : Nat))
      rw [if_pos rfl]
      rfl
    · rw [valV_neg e, valV_nil, if_neg (fun z => e (List.mem_singleton.mp z).symm)]
  have hmet5 : H5 met = some (.ext f1) := ((e3.trans e4).trans e5) _ _ hmt
  have hmet3 : H3 met = some (.ext f1) := e3 _ _ hmt
  have n1' : met ≠ row := ne_of_none hmet3 hrow0
  have n2' : met ≠ made := ne_of_none (e4 _ _ hmet3) hmade0
  have n3' : row ≠ made := ne_of_none hrow hmade0
  have z1 : H0 row = none := (s2.trans e3).free hrow0
  have z2 : H0 made = none := ((s2.trans e3).trans e4).free hmade0
  have hn4 := hb.foe2
  have hr4 := hb.fr2
  have hset : (settings b.foe.length).length ≤ 4 := by
    rw [settings_len]
    exact Nat.pow_le_pow_right (n := 2) (by decide) hb.foe2
  have hset2 : (settings b.fr.length).length ≤ 4 := by
    rw [settings_len]
    exact Nat.pow_le_pow_right (n := 2) (by decide) hb.fr2
  refine whileN 17 (fun i σ' H' => ∃ z5 z6 z7 z8 z9 z10 z11, σ' = [some (.ref c), some (.ref a), some (.ref met), some (.ref row), some (.ref made), z5, z6, z7, z8, z9, z10, z11] ∧ Same H0 H' ∧ i ≤ (rowsM b i).length ∧
      RowAt P w K H' met row (rowsM b i) ∧ ∃ ns, H' made = some (.lst ns) ∧ TDs K H' ns (((rowsM b i).take i).map (nodeD b (rowsM b i))))
    ⟨_, _, _, _, _, _, _, rfl, s5, Nat.zero_le _, hR0, [], hmade, .nil⟩ (fun i σ' H' h => ?_)
  obtain ⟨z5, z6, z7, z8, z9, z10, z11, rfl, e6, hi, hR, ns, hns, hnd⟩ := h
  obtain ⟨rs, hrs, hrd⟩ := hR.ls
  have hnl : ns.length = i := by rw [hnd.length, List.length_map, List.length_take]; omega
  have hrl : rs.length = (rowsM b i).length := by rw [hrd.length, List.length_map]
  have h16 := rowsM_16 hb i
  walk_at "ga"
  rw [hnl, hrl]
  refine l_i2 (fun hlt => ?_) (fun hge => ?_)
  · have hlt : i < (rowsM b i).length := by have := of_decide_eq_true hlt; omega
    refine wturn (by omega) ?_
    obtain ⟨mem, hmem⟩ : ∃ mem, (rowsM b i)[i]? = some mem := ⟨_, List.getElem?_eq_getElem hlt⟩
    have hmm : mem ∈ rowsM b i := List.mem_of_getElem? hmem
    have hml := (rowsM_ok b i).2 mem hmm
    obtain ⟨u0, hu0, hum⟩ := hrd.get (i := i) (d := encB mem) (by rw [List.getElem?_map, hmem]; rfl)
    obtain ⟨cm, rfl, hcm⟩ := hum.encB_inv
    walk_at "ga"
    refine l_ixL (SqL.of hrs) (atI_nat (by rw [hnl]; exact hu0)) ?_
    walk_at "ga"
    refine l_mkL0 fun mv H1 e1 hmv0 hmv => ?_
    have hT1' := sqt_same (e6.trans e1) (sqt_same e00 hT)
    have e61 := e6.trans e1
    walk_at "ga"
    rw [List.length_map]
    refine ⟨b.foe.length, rfl, by omega, fun l3 ws3 H3' e3' hl3 hm3 hw3 => ?_⟩
    have e63 := e61.trans e3'
    have hR3 := (hR.same e1).same e3'
    have hmv3 := e3' _ _ hmv
    have zmv : H0 mv = none := e6.free hmv0
    have zS : ∀ l ∈ [met, row, mv], H0 l = none := none3 hmet z1 zmv
    have toH0 : ∀ {S : List Addr} {H6 : Hp}, (∀ l ∈ S, H0 l = none) → SameEx S H3' H6 → Same H0 H6 := fun hS e => SameEx.same hS ((SameEx.of_same e63).trans e)
    have hS3 : NTup H3' [met, row, mv] := hR3.nt hmv3
    have nmvl : l3 ∉ [met, row, mv] := nin3 ((hR.same e1).ne1 hl3) ((hR.same e1).ne2 hl3) (ne_of_none hmv hl3).symm
    have hcm3 := sqt_same (e1.trans e3') hcm
    have hfin : (match (rowsM b i)[i]? with | some mem => addAll (rowsM b i) (behindsOf (movesM b mem)) | none => rowsM b i) = rowsM b (i + 1) := rfl
    refine forL (SqL.of hm3) (fun j σ' H' => ∃ z7 z8 z9 z10 z11, σ' = [some (.ref c), some (.ref a), some (.ref met), some (.ref row), some (.ref made), some (.ref cm), some (.ref mv), z7, z8, z9, z10, z11] ∧ SameEx [met, row, mv] H3' H' ∧
        RowAt P w K H' met row (addAll (rowsM b i) (behindsOf (mpre b mem j))) ∧ ∃ ms, H' mv = some (.lst ms) ∧ TDs K H' ms ((mpre b mem j).map (mvD (addAll (rowsM b i) (behindsOf (mpre b mem j))))))
      ⟨_, _, _, _, _, rfl, SameEx.refl, hR3, [], hmv3, .nil⟩ (fun j σ' H' _ h => ?_) (fun j x σ' H' hx h => ?_) (fun σ' H' h => ?_)
    · obtain ⟨_, _, _, _, _, _, e7, _⟩ := h
      exact SqL.of (e7 _ _ nmvl hm3)
    · obtain ⟨z7, z8, z9, z10, z11, rfl, e7, hR7, ms, hms, hmd⟩ := h
      have e07 := toH0 zS e7
      have t7 : TupX K H3' H' := e7.tup hS3
      obtain ⟨d, hd1, hx2⟩ := hw3.at hx
      rw [List.getElem?_map] at hd1
      obtain ⟨foe, hfoe, rfl⟩ := Option.map_eq_some_iff.mp hd1
      have hjl := (List.getElem?_eq_some_iff.mp hfoe).1
      have hfl := settings_mem_len (List.mem_of_getElem? hfoe)
      have hx3 : TD K H' x (encB foe) := hx2.mono t7
      obtain ⟨cf, rfl, hcf⟩ := hx3.encB_inv
      have hcm7 := t7 _ _ hcm3
      have hT7 := sqt_same e07 (sqt_same e00 hT)
      walk_at "ga"
      refine l_meth ?_
      walk_at "ga"
      refine l_Tm (e07 _ _ h1) (by rfl) ?_
      walk_at "ga"
      refine l_mkT (by show 1 ≤ sizeLine; decide) fun c8 H8 e8 hn8 hm8 => ?_
      have hT8 := sqt_same e8 hT7
      have hT28 := sqt_same e8 (sqt_same e07 (sqt_same e00 hT2))
      walk_at "ga"
      rw [List.length_map]
      refine l_rep (SqT.of hm8) hb.fr1 (by omega) fun c9 H9 e9 hc9 => ?_
      refine l_catD (sqt_same (e8.trans e9) hcf) hc9 (sz (by rw [List.length_map, List.length_replicate, hfl]; omega)) fun c10 H10 e10 hc10 => ?_
      have e710 : Same H' H10 := (e8.trans e9).trans e10
      have e010 := e07.trans e710
      have hc10' : SqT K H10 c10 ((foe ++ List.replicate b.fr.length false).map V.bl) := by rw [List.map_append, List.map_replicate]; exact hc10
      refine ⟨a, cm, c10, _, b, mem, foe ++ List.replicate b.fr.length false, b.proms, rfl, ⟨hA.same e010, hb, sqt_same e710 hcm7, hml, hc10', ?_⟩, td_same e010 (td_same e00 g3), by have := hb.p3; omega, Book.proms_says, fun H11 e11 => ?_⟩
      · unfold Book.names
        rw [List.length_append, List.length_append, List.length_replicate, hfl]
      have e711 : Same H' H11 := e710.trans e11
      have e011 := e07.trans e711
      refine ⟨_, rfl, ?_⟩
      have hstep := mpre_step (b := b) (mem := mem) hfoe
      refine l_i2 (fun hk => ?_) (fun hk => ?_)
      · rw [if_pos hk] at hstep
        walk_at "ga"
        refine l_mkL0 fun an H12 e12 han0 han => ?_
        have e712 : Same H' H12 := e711.trans e12
        have e012 := e07.trans e712
        walk_at "ga"
        refine ⟨a, cm, cf, b, mem, foe, rfl, hA.same e012, hb, sqt_same e712 hcm7, hml, sqt_same e712 hcf, hfl, fun l13 ws13 H13 e13 hl13 hm13 hp13 => ?_⟩
        have e713 : Same H' H13 := e712.trans e13
        have e013 := e07.trans e713
        have hR13 := hR7.same e713
        have han13 := e13 _ _ han
        have hS13 : NTup H13 [met, row, an] := hR13.nt han13
        have zan : H' an = none := e711.free han0
        have nl13 : l13 ∉ [met, row, an] := nin3 ((hR7.same e712).ne1 hl13) ((hR7.same e712).ne2 hl13) (ne_of_none han hl13).symm
        have hans : (answersM b mem foe).length ≤ 4 := by
          unfold answersM
          rw [List.length_map]
          exact Nat.le_trans (List.length_filter_le _ _) hset2
        generalize hanE : answersM b mem foe = ans at hp13 hstep hans
        generalize hRj : addAll (rowsM b i) (behindsOf (mpre b mem j)) = Rj at hR7 hR13 hmd
        have hRlen : ∀ q, (addAll Rj ((ans.take q).map (·.2.2))).length ≤ 16 := by
          intro q
          have r1 := rowsM_ok b i
          refine Nat.le_trans (bools_len (n := b.pieces.length) (nd_addAll _ (by rw [← hRj]; exact nd_addAll _ r1.1)) fun y hy => ?_) (Nat.pow_le_pow_right (n := 2) (by decide) hb.p4)
          rcases (mem_addAll _).mp hy with hy | hy
          · rw [← hRj] at hy
            rcases (mem_addAll _).mp hy with hy | hy
            · exact r1.2 y hy
            · obtain ⟨mv2, hmv2, hy2⟩ := List.mem_flatMap.mp hy
              obtain ⟨e, he, rfl⟩ := List.mem_map.mp hy2
              unfold mpre at hmv2
              obtain ⟨foe2, _, rfl⟩ := List.mem_map.mp hmv2
              unfold answersM at he
              obtain ⟨fr, _, rfl⟩ := List.mem_map.mp he
              exact behindM_len _ _ _
          · obtain ⟨e, he, rfl⟩ := List.mem_map.mp hy
            have he := List.mem_of_mem_take he
            rw [← hanE] at he
            unfold answersM at he
            obtain ⟨fr, _, rfl⟩ := List.mem_map.mp he
            exact behindM_len _ _ _
        refine forL (SqL.of hm13) (fun q σ' H' => ∃ z9 z10 z11, σ' = [some (.ref c), some (.ref a), some (.ref met), some (.ref row), some (.ref made), some (.ref cm), some (.ref mv), some (.ref cf), some (.ref an), z9, z10, z11] ∧ SameEx [met, row, an] H13 H' ∧
            RowAt P w K H' met row (addAll Rj ((ans.take q).map (·.2.2))) ∧ ∃ us, H' an = some (.lst us) ∧ TDs K H' us ((ans.take q).map (ansD (addAll Rj ((ans.take q).map (·.2.2))))))
          ⟨_, _, _, rfl, SameEx.refl, hR13, [], han13, .nil⟩ (fun q σ' H' _ h => ?_) (fun q x σ' H' hx h => ?_) (fun σ' H' h => ?_)
        · obtain ⟨_, _, _, _, e14, _⟩ := h
          exact SqL.of (e14 _ _ nl13 hm13)
        · obtain ⟨z9, z10, z11, rfl, e14, hR14, us, hus, hud⟩ := h
          obtain ⟨e, he1, r1, x1, c1, rfl, hr1, hx1, hc1⟩ := paired_at hp13 hx
          have t14 : TupX K H13 H' := e14.tup hS13
          have hc14 : H' c1 = some (.tup (e.2.2.map V.bl)) := e14 _ _ (fun z => hS13 c1 z _ (.inl hc1)) hc1
          have hadd : addAll Rj ((ans.take (q + 1)).map (·.2.2)) = add1 (addAll Rj ((ans.take q).map (·.2.2))) e.2.2 := by
            rw [take_get he1, List.map_append, addAll_app]
            rfl
          have h16 := hRlen q
          have hq4 := (List.getElem?_eq_some_iff.mp he1).1
          have hul : us.length = q := by rw [hud.length, List.length_map, List.length_take]; omega
          have hstep2 : ((ans.take q).map (ansD (addAll Rj ((ans.take (q + 1)).map (·.2.2))))) = (ans.take q).map (ansD (addAll Rj ((ans.take q).map (·.2.2)))) := by
            rw [hadd]
            obtain ⟨t, ht⟩ := add1_ext (addAll Rj ((ans.take q).map (·.2.2))) e.2.2
            rw [ht]
            exact anss_ext fun x hx => (mem_addAll _).mpr (.inr hx)
          have hmm16 : e.2.2 ∈ addAll Rj ((ans.take (q + 1)).map (·.2.2)) := by rw [hadd]; exact mem_add1.mpr (.inr rfl)
          have hz : (ans.take (q + 1)).map (ansD (addAll Rj ((ans.take (q + 1)).map (·.2.2)))) = (ans.take q).map (ansD (addAll Rj ((ans.take q).map (·.2.2)))) ++ [ansD (addAll Rj ((ans.take (q + 1)).map (·.2.2))) e] := by
            rw [← hstep2, take_get he1, List.map_append]
            rfl
          have hr14 : SqT K H' r1 [x1, .int e.2.1, .ref c1] := t14 _ _ hr1
          walk_at "ga"
          refine ⟨fun σ' H4 => σ' = [some (.ref c), some (.ref a), some (.ref met), some (.ref row), some (.ref made), some (.ref cm), some (.ref mv), some (.ref cf), some (.ref an), some x1, some (.int e.2.1), some (.ref c1)] ∧ SameEx [met, row] H' H4 ∧
            RowAt P w K H4 met row (addAll Rj ((ans.take (q + 1)).map (·.2.2))), ?_, fun σ4 H4 h4 => ?_⟩
          · obtain ⟨⟨kvs, hdb14, hk1, hk2⟩, rs4, hrs4, hrd4⟩ := id hR14
            have hrl4 : rs4.length = (addAll Rj ((ans.take q).map (·.2.2))).length := by rw [hrd4.length, List.length_map]
            obtain ⟨f4, hm4⟩ := hdb14.ext_at
            walk_at "ga"
            refine l_bnotin ?_
            walk_at "ga"
            refine ⟨met, c1, kvs, e.2.2, rfl, rfl, hdb14, hc14, ?_⟩
            walk_at "ga"
            refine l_i2 (fun hn => ?_) (fun hn => ?_)
            · have hnR : e.2.2 ∉ addAll Rj ((ans.take q).map (·.2.2)) := by
                intro hin
                rw [hk2, vRow, if_pos hin] at hn
                cases hn
              walk_at "ga"
              refine l_bput ?_
              walk_at "ga"
              refine ⟨met, c1, kvs, e.2.2, rfl, rfl, hdb14, hc14, szl (by omega), fun u hu hd => ?_⟩
              have hrs5 : upd H' met u row = some (.lst rs4) := by rw [upd_ne n1'.symm]; exact hrs4
              walk_at "ga"
              refine ⟨tyv_list (SqL.of hrs5), ?_⟩
              walk_at "ga"
              refine l_appN hrs5 (szl (by omega)) fun H5 e5 hm5 => ?_
              rw [hrl4] at hd
              have hput := RowAt.put n1' hR14 hk1 hk2 hm4 hnR hu hd hc14 e5 hrs4 hrd4 hm5
              refine ⟨rfl, hput.1, ?_⟩
              rw [hadd, add1, if_neg hnR]
              exact hput.2
            · have hnR : e.2.2 ∈ addAll Rj ((ans.take q).map (·.2.2)) := by
                refine Classical.byContradiction fun hin => ?_
                rw [hk2, vRow, if_neg hin] at hn
                cases hn
              walk_at "ga"
              refine ⟨rfl, SameEx.refl, ?_⟩
              rw [hadd, add1, if_pos hnR]
              exact hR14
          · obtain ⟨rfl, e15, hR15⟩ := h4
            have hS14 : NTup H' [met, row] := by
              obtain ⟨⟨kvs, a1, _⟩, rs, b1, _⟩ := hR14
              exact NTup.cons a1.nt (NTup.cons (nt_lst b1) NTup.nil)
            have t15 : TupX K H' H4 := e15.tup hS14
            have nan : an ∉ [met, row] := nin2 (hR7.same e711 |>.ne1 han0) (hR7.same e711 |>.ne2 han0)
            have hus15 : H4 an = some (.lst us) := e15 _ _ nan hus
            have hc15 : H4 c1 = some (.tup (e.2.2.map V.bl)) := e15 _ _ (fun z => hS14 c1 z _ (.inl hc14)) hc14
            obtain ⟨⟨kvs, hdb15, hk1, hk2⟩, rs4, hrs4, hrd4⟩ := id hR15
            walk_at "ga"
            refine ⟨tyv_list (SqL.of hus15), ?_⟩
            walk_at "ga"
            refine l_bget ?_
            walk_at "ga"
            refine ⟨met, c1, kvs, e.2.2, _, rfl, rfl, hdb15, hc15, by rw [hk2, vRow, if_pos hmm16], ?_⟩
            walk_at "ga"
            refine l_mkT (by show 3 ≤ sizeLine; decide) fun l17 H17 e17 hn17 hm17 => ?_
            walk_at "ga"
            have hus17 := e17 _ _ hus15
            refine l_appN hus17 (szl (by omega)) fun H18 e18 hm18 => ?_
            have t18 : TupX K H17 H18 := e18.tup hus17
            refine ⟨_, _, _, rfl, ?_, ?_, _, hm18, ?_⟩
            · refine e14.trans (SameEx.trans ?_ ((SameEx.of_same e17).trans (SameEx.of_but e18 in3)))
              exact fun b o n q => e15 b o (fun z => n (sub2 z)) q
            · refine RowAt.ex (S := [an]) (SameEx.of_but e18 (List.mem_singleton.mpr rfl)) (NTup.cons (nt_lst hus17) NTup.nil) ?_ ?_ (hR15.same e17)
              · exact fun z => nan (by rw [List.mem_singleton.mp z]; exact List.mem_cons_self)
              · exact fun z => nan (by rw [List.mem_singleton.mp z]; exact List.mem_cons_of_mem _ List.mem_cons_self)
            · rw [hz]
              refine TDs.append (((hud.mono t15).mono (TupX.same e17)).mono t18) (.one (.tup (t18 _ _ (SqT.of hm17)) ?_))
              exact .three ((((hx1.mono t14).mono t15).mono (TupX.same e17)).mono t18) (.int _) (.int _)
        · obtain ⟨z9, z10, z11, rfl, e14, hR14, us, hus, hud⟩ := h
          have hwl13 : ws13.length = ans.length := hp13.length
          rw [hwl13, List.take_length] at hR14 hud
          have nmv1 : mv ≠ met := hR.ne1 hmv0
          have nmv2 : mv ≠ row := hR.ne2 hmv0
          have nmv : mv ∉ [met, row, an] := nin3 nmv1 nmv2 (ne_of_none hms zan)
          have hms14 : H' mv = some (.lst ms) := e14 _ _ nmv (e713 _ _ hms)
          have t14 : TupX K H13 H' := e14.tup hS13
          walk_at "ga"
          refine ⟨tyv_list (SqL.of hms14), ?_⟩
          walk_at "ga"
          refine l_tupL (SqL.of hus) fun l15 hl15 => ?_
          have e15 : Same H' (upd H' l15 (.tup us)) := same_new hl15
          have hm15 : upd H' l15 (.tup us) l15 = some (.tup us) := upd_same
          revert e15 hm15
          generalize upd H' l15 (.tup us) = H15
          intro e15 hm15
          walk_at "ga"
          refine l_mkT (by show 2 ≤ sizeLine; decide) fun l16 H16 e16 hn16 hm16 => ?_
          walk_at "ga"
          have hms16 := (e15.trans e16) _ _ hms14
          refine l_appN hms16 (szl ?_) fun H17 e17 hm17 => ?_
          · rw [hmd.length, List.length_map]
            unfold mpre
            rw [List.length_map]
            have q1 := List.length_filter_le (fun foe => keepsM b b.proms mem (foe ++ List.replicate b.fr.length false)) ((settings b.foe.length).take j)
            rw [List.length_take] at q1
            omega
          have hbe : behindsOf (mpre b mem (j + 1)) = behindsOf (mpre b mem j) ++ ans.map (·.2.2) := by
            rw [hstep, behindsOf_app]
            congr 1
            show (List.flatMap _ [_]) = _
            rw [List.flatMap_cons, List.flatMap_nil, List.append_nil]
          have hRE : addAll (rowsM b i) (behindsOf (mpre b mem (j + 1))) = addAll Rj (ans.map (·.2.2)) := by rw [hbe, addAll_app, hRj]
          have t17 : TupX K H16 H17 := e17.tup hms16
          refine ⟨_, _, _, _, _, rfl, ?_, ?_, _, hm17, ?_⟩
          · exact e7.trans ((SameEx.drop2 zan (fun x => sub3) ((SameEx.of_same e713).trans e14)).trans ((SameEx.of_same (e15.trans e16)).trans (SameEx.of_but e17 in3)))
          · rw [hRE]
            refine RowAt.ex (S := [mv]) (SameEx.of_but e17 (by simp)) (NTup.cons (nt_lst hms16) NTup.nil) ?_ ?_ (hR14.same (e15.trans e16))
            · exact fun z => nmv1 (List.mem_singleton.mp z).symm
            · exact fun z => nmv2 (List.mem_singleton.mp z).symm
          · rw [hstep, ← hstep, hRE, hstep, List.map_append]
            obtain ⟨t, ht⟩ := addAll_ext (ans.map (·.2.2)) Rj
            refine TDs.append ?_ ?_
            · rw [ht, mvs_ext fun x hx => by rw [← hRj]; exact (mem_addAll _).mpr (.inr hx)]
              exact ((tds_same (e15.trans e16) ((tds_same e713 hmd).mono t14))).mono t17
            · refine .one (.tup (t17 _ _ (SqT.of hm16)) (.two ?_ ?_))
              · exact (td_same (e15.trans e16) ((td_same e713 hx3).mono t14)).mono t17
              · exact .tup (t17 _ _ (SqT.of (e16 _ _ hm15))) ((tds_same (e15.trans e16) hud).mono t17)
      · rw [if_neg (by rw [hk]; exact Bool.false_ne_true), List.append_nil] at hstep
        walk_at "ga"
        rw [← hstep] at hR7 hmd
        refine ⟨_, _, _, _, _, rfl, e7.trans (SameEx.of_same e711), hR7.same e711, ms, e711 _ _ hms, tds_same e711 hmd⟩
    · obtain ⟨z7, z8, z9, z10, z11, rfl, e7, hR7, ms, hms, hmd⟩ := h
      have hwl3 : ws3.length = (settings b.foe.length).length := by rw [hw3.length, List.length_map]
      have hmp : mpre b mem ws3.length = movesM b mem := by
        unfold mpre movesM
        rw [hwl3, List.take_length]
      rw [hmp] at hR7 hmd
      rw [← rowsM_step hmem] at hR7 hmd
      have t7 : TupX K H3' H' := e7.tup hS3
      have hmade3 : H3' made = some (.lst ns) := (e1.trans e3') _ _ hns
      have nmm : made ≠ mv := ne_of_none hns hmv0
      have hmade7 : H' made = some (.lst ns) := e7 _ _ (nin3 n2'.symm n3'.symm nmm) hmade3
      walk_at "ga"
      refine ⟨tyv_list (SqL.of hmade7), ?_⟩
      walk_at "ga"
      refine l_tupL (SqL.of hms) fun l15 hl15 => ?_
      have e15 : Same H' (upd H' l15 (.tup ms)) := same_new hl15
      have hm15 : upd H' l15 (.tup ms) l15 = some (.tup ms) := upd_same
      revert e15 hm15
      generalize upd H' l15 (.tup ms) = H15
      intro e15 hm15
      walk_at "ga"
      refine l_mkT (by show 2 ≤ sizeLine; decide) fun l16 H16 e16 hn16 hm16 => ?_
      walk_at "ga"
      have hmade16 := (e15.trans e16) _ _ hmade7
      refine l_appN hmade16 (szl (by omega)) fun H17 e17 hm17 => ?_
      have t17 : TupX K H16 H17 := e17.tup hmade16
      have e717 : TupX K H' H17 := (TupX.same (e15.trans e16)).trans t17
      obtain ⟨t, ht⟩ := addAll_ext (behindsOf (movesM b mem)) (rowsM b i)
      rw [← rowsM_step hmem] at ht
      refine ⟨_, _, _, _, _, _, _, rfl, ?_, ?_, ?_, _, hm17, ?_⟩
      · have s16 : Same H0 H16 := (toH0 zS e7).trans (e15.trans e16)
        exact e17.same s16 z2
      · rw [ht, List.length_append]; omega
      · refine RowAt.ex (S := [made]) (SameEx.of_but e17 (List.mem_singleton.mpr rfl)) (NTup.cons (nt_lst hmade16) NTup.nil) ?_ ?_ (hR7.same (e15.trans e16))
        · exact fun z => n2' (List.mem_singleton.mp z)
        · exact fun z => n3' (List.mem_singleton.mp z)
      · rw [ht, List.take_append_of_le_length (by omega), take_get hmem, ← ht, List.map_append]
        refine TDs.append ?_ (.one (.tup (t17 _ _ (SqT.of hm16)) (.two ?_ (.tup (t17 _ _ (SqT.of (e16 _ _ hm15))) ?_))))
        · rw [ht, nodes_ext fun m hm x hx => ?_]
          · exact ((tds_same (e1.trans e3') hnd).mono t7).mono e717
          · obtain ⟨j, hj1, hj2⟩ := List.mem_iff_getElem.mp hm
            rw [List.length_take] at hj1
            rw [List.getElem_take] at hj2
            exact rowsM_closed b i j m (by omega) (List.getElem?_eq_some_iff.mpr ⟨by omega, hj2⟩) x hx
        · exact ((td_encB hcm3).mono t7).mono e717
        · exact hmd.mono e717
  · have hge : (rowsM b i).length ≤ i := by have := of_decide_eq_false hge; omega
    walk_at "ga"
    rw [List.take_of_length_le hge] at hnd
    rw [rowM_eq hb hge] at k
    exact k made ns H' (e00.trans e6) (e00.free z2) hns hnd
end
/-! ### machines -/
abbrev Mach := List (List (List Bool × Nat))
def encPair (p : List Bool × Nat) : PyData := .tuple [encB p.1, .int (p.2 : Nat)]
def encStand (row : List (List Bool × Nat)) : PyData := .tuple (row.map encPair)
def encMach (M : Mach) : PyData := .tuple (M.map encStand)
structure MOk (b : Book) (M : Mach) : Prop where
  one : 1 ≤ M.length
  most : M.length ≤ 64
  wide : ∀ row ∈ M, row.length = 2 ^ b.foe.length
  good : ∀ row ∈ M, ∀ p ∈ row, p.1.length = b.fr.length ∧ p.2 < M.length
/-- what a machine does at a stand, at a setting of the foe -/
def stepM (b : Book) (M : Mach) (s : Nat) (foe : List Bool) : List Bool × Nat := (M.getD s []).getD (ixOf foe (settings b.foe.length)) ([], 0)
def runAux (b : Book) (M : Mach) : Nat → List (List Bool) → List (List Bool)
  | _, [] => []
  | s, foe :: r => (foe ++ (stepM b M s foe).1) :: runAux b M (stepM b M s foe).2 r
def standAfter (b : Book) (M : Mach) : Nat → List (List Bool) → Nat
  | s, [] => s
  | s, foe :: r => standAfter b M (stepM b M s foe).2 r
theorem standAfter_snoc {b : Book} {M : Mach} {x : List Bool} : ∀ {l : List (List Bool)} {s : Nat}, standAfter b M s (l ++ [x]) = (stepM b M (standAfter b M s l) x).2
  | [], _ => rfl
  | _ :: l, _ => standAfter_snoc (l := l)
theorem runAux_snoc {b : Book} {M : Mach} {x : List Bool} : ∀ {l : List (List Bool)} {s : Nat}, runAux b M s (l ++ [x]) = runAux b M s l ++ [x ++ (stepM b M (standAfter b M s l) x).1]
  | [], _ => rfl
  | y :: l, s => by
    show (y ++ (stepM b M s y).1) :: runAux b M (stepM b M s y).2 (l ++ [x]) = _
    rw [runAux_snoc (l := l)]
    rfl
theorem stepM_mem {b : Book} {M : Mach} (hM : MOk b M) {s : Nat} (hs : s < M.length) {foe : List Bool} (hf : foe.length = b.foe.length) :
    ∃ row, M[s]? = some row ∧ row[ixOf foe (settings b.foe.length)]? = some (stepM b M s foe) ∧ (stepM b M s foe).1.length = b.fr.length ∧ (stepM b M s foe).2 < M.length := by
  have h1 : M[s]? = some M[s] := List.getElem?_eq_getElem hs
  have hr : M[s] ∈ M := List.getElem_mem hs
  have hi : ixOf foe (settings b.foe.length) < M[s].length := by
    rw [hM.wide _ hr, ← settings_len]
    exact ixOf_lt (settings_all hf)
  have h2 : M[s][ixOf foe (settings b.foe.length)]? = some (stepM b M s foe) := by
    unfold stepM
    rw [List.getD_eq_getElem?_getD (l := M), h1, Option.getD_some, List.getD_eq_getElem?_getD, List.getElem?_eq_getElem hi, Option.getD_some]
  exact ⟨_, h1, h2, hM.good _ hr _ (List.mem_of_getElem? h2)⟩
theorem standAfter_lt {b : Book} {M : Mach} (hM : MOk b M) : ∀ {l : List (List Bool)} {s : Nat}, s < M.length → (∀ x ∈ l, x.length = b.foe.length) → standAfter b M s l < M.length
  | [], _, h, _ => h
  | x :: l, s, h, hl => by
    obtain ⟨_, _, _, _, h4⟩ := stepM_mem hM h (hl x (by simp))
    exact standAfter_lt hM (l := l) h4 fun y hy => hl y (List.mem_cons_of_mem _ hy)
theorem eqv_firstB {ps : List (List Bool)} {s : List Bool} {m : Nat} {z : PyData} (hm : m < ixOf s ps) (hz : (ps.map encB)[m]? = some z) : PyData.eqv z (encB s) = false := by
  rw [List.getElem?_map] at hz
  obtain ⟨q, hq, rfl⟩ := Option.map_eq_some_iff.mp hz
  cases e : PyData.eqv (encB q) (encB s) with
  | false => rfl
  | true =>
    rw [(encB_eqv q s).mp e] at hq
    exact absurd hq (ixOf_first hm)
section
variable {P : Program} {w : World} {K : PySem.W.Frag} {mg : Str → Option Value} {base : Heap}
/-- l.index(s), a list of settings -/
theorem l_ixB {H : Hp} {Q : VK} {l c : Addr} {ws : List V} {ss : List (List Bool)} {s : List Bool} (hl : SqL K H l ws) (hw : TDs K H ws (ss.map encB)) (hc : SqT K H c (s.map V.bl)) (hm : s ∈ ss) (q : Q (.int (ixOf s ss : Nat)) H) :
    rIndexD K (.ref l) [.ref c] H Q := by
  refine ⟨l, _, encB s, ss.map encB, ixOf s ss, encB s, rfl, rfl, dpl hl hw, (td_encB hc).dp, encBs_shaped _, encB_shaped _, ?_, (encB_eqv s s).mpr rfl, fun m z' hm hz => eqv_firstB hm hz, q⟩
  rw [List.getElem?_map, ixOf_get hm]
  rfl
/-! ### game -/
theorem sc_game : FnScope ["book"] ["book"] (defScope s_game) := ⟨rfl, rfl, rfl, by decide +kernel, rfl, by decide +kernel, by decide +kernel⟩
theorem ok_game (D : Hd K mg) : OkG P w K mg base "game" ["book"] 21 (spGameOf K) := by
  have G_game_of := ok_game_of (P := P) (w := w) (base := base) D
  have G_checked := ok_checked (P := P) (w := w) (base := base) D
  obtain ⟨fd, F⟩ := F_game D
  refine ⟨g_game D, F.kp, fd, F.ok sc_game (fun vs H Q E h => ?_) (fun cdv A outer sS H vs Q E hr h => ?_), F.bindsN fun _ _ _ _ _ _ us hl => match us, hl with | [_], _ => rfl⟩
  · obtain ⟨v, b, rfl, _⟩ := h
    rfl
  obtain ⟨v, b, rfl, hv, hb, k⟩ := h
  refine ⟨_, (PSs.nox (pss_one (ps_ret (pe_cl G_game_of hr (pa_cons (pe_cl G_checked hr (pa_cons (pv 0) pa_nil)) pa_nil))))), ?_⟩
  walk_at "ga"
  refine ⟨_, b, rfl, hv, hb, fun H1 e1 => ?_⟩
  walk_at "ga"
  exact ⟨_, b, rfl, td_same e1 hv, hb, fun l ws H' e hl hm hw => k l ws H' (e1.trans e) (e1.free hl) hm hw⟩
/-! ### is_stand .. checked_machine -/
def spStand (K : PySem.W.Frag) : Sp := fun vs H Q _ => ∃ (v u : V) (b : Book) (row : List (List Bool × Nat)) (n : Nat), vs = [v, u, .int (n : Nat)] ∧ TD K H v b.enc ∧ b.Ok ∧ TD K H u (encStand row) ∧ row.length = 2 ^ b.foe.length ∧
  (∀ p ∈ row, p.1.length = b.fr.length ∧ p.2 < n) ∧ ∀ H', Same H H' → Q (.bl true) H'
theorem sc_is_stand : FnScope ["book", "thing", "many", "pair"] ["book", "thing", "many"] (defScope s_is_stand) := ⟨rfl, rfl, rfl, by decide +kernel, rfl, by decide +kernel, by decide +kernel⟩
theorem ok_is_stand (D : Hd K mg) : OkG P w K mg base "is_stand" ["book", "thing", "many"] 3 (spStand K) := by
  have G_settings_of := ok_settings_of (P := P) (w := w) (base := base) D
  have G_is_setting := ok_is_setting (P := P) (w := w) (base := base) D
  have G_between := ok_between (P := P) (w := w) (base := base) D
  obtain ⟨fd, F⟩ := F_is_stand D
  refine ⟨g_is_stand D, F.kp, fd, F.ok sc_is_stand (fun vs H Q E h => ?_) (fun cdv A outer sS H vs Q E hr h => ?_), F.bindsN fun _ _ _ _ _ _ us hl => match us, hl with | [_, _, _], _ => rfl⟩
  · obtain ⟨v, u, b, row, n, rfl, _⟩ := h
    rfl
  obtain ⟨v, u, b, row, n, rfl, hv, hb, hu, hw, hg, k⟩ := h
  obtain ⟨c, x1, x2, x3, x4, x5, rfl, hT, g1, g2, g3, g4, g5⟩ := id hv.t5
  obtain ⟨c1, y1, rfl, hT1, hs1⟩ := g1.tup_inv
  cases hs1.strs_inv
  obtain ⟨c2, y2, rfl, hT2, hs2⟩ := g2.tup_inv
  cases hs2.strs_inv
  obtain ⟨c3, y3, rfl, hT3, hs3⟩ := hu.tup_inv
  have hyl : y3.length = row.length := by rw [hs3.length, List.length_map]
  have hf2 := hb.foe2
  have hr2 := hb.fr2
  refine ⟨_, (PSs.nox (pss_cons (ps_if (PW.pt (pw_or (pt_not (pt_val (pe_callB (cl_isiK K) (by rfl) (g_isinstance D) (by decide +kernel) (pa_cons (pv 1) (pa_cons (pe_bltn (v := .ty "tuple") (by rfl) (g_tuple D) (by decide +kernel) rfl) pa_nil))))) (pw_or1 (pt_cmpR op_ne (pe_callB (cl_lenK K) (by rfl) (g_len D) (by decide +kernel) (pa_cons (pv 1) pa_nil)) (pe_callB (cl_lenK K) (by rfl) (g_len D) (by decide +kernel) (pa_cons (pe_cl G_settings_of hr (pa_cons (pe_callB (cl_lenK K) (by rfl) (g_len D) (by decide +kernel) (pa_cons (pe_ix (ix_tupK K) (pv 0) pe_int (fun _ _ => rfl)) pa_nil)) pa_nil)) pa_nil)) (nomark _))))) (pss_one (ps_ret pe_bl)) pss_nil)
      (pss_cons (ps_for PassesOwn.never rfl (pi_tupK K (pv 1)) (pg_name (i := 3) sc_is_stand.nd rfl (Or.inl rfl)) (pss_cons (ps_if (PW.pt (pw_or (pt_not (pt_val (pe_callB (cl_isiK K) (by rfl) (g_isinstance D) (by decide +kernel) (pa_cons (pv 3) (pa_cons (pe_bltn (v := .ty "tuple") (by rfl) (g_tuple D) (by decide +kernel) rfl) pa_nil))))) (pw_or (pt_cmpR op_ne (pe_callB (cl_lenK K) (by rfl) (g_len D) (by decide +kernel) (pa_cons (pv 3) pa_nil)) pe_int (nomark _)) (pw_or1 (pt_not (pt_val (pe_cl G_is_setting hr (pa_cons (pe_ix (ix_tupK K) (pv 3) pe_int (fun _ _ => rfl)) (pa_cons (pe_callB (cl_lenK K) (by rfl) (g_len D) (by decide +kernel) (pa_cons (pe_ix (ix_tupK K) (pv 0) pe_int (fun _ _ => rfl)) pa_nil)) pa_nil))))))))) (pss_one (ps_ret pe_bl)) pss_nil)
      (pss_one (ps_if (pt_not (pt_val (pe_cl G_between hr (pa_cons (pe_ix (ix_tupK K) (pv 3) pe_int (fun _ _ => rfl)) (pa_cons pe_int (pa_cons (pe_op op_sub (pv 2) pe_int) pa_nil)))))) (pss_one (ps_ret pe_bl)) pss_nil))))
      (pss_one (ps_ret pe_bl))))), ?_⟩
  walk_at "ga"
  rw [List.length_map]
  refine ⟨b.foe.length, rfl, by omega, fun l ws H1 e1 hl hm hws => ?_⟩
  have hwl : ws.length = y3.length := by rw [hws.length, List.length_map, settings_len, hyl, hw]
  walk_at "ga"
  refine l_iF (by rw [hwl]; simp) ?_
  walk_at "ga"
  refine forT (sqt_same e1 hT3) (fun i σ' H' => ∃ z, σ' = [some (.ref c), some (.ref c3), some (.int (n : Nat)), z] ∧ Same H1 H') ⟨_, rfl, Same.refl H1⟩ (fun i σ' H' _ h => ?_) (fun i x σ' H' hx h => ?_) (fun σ' H' h => ?_)
  · obtain ⟨z, _, e2⟩ := h
    exact sqt_same (e1.trans e2) hT3
  · obtain ⟨z, rfl, e2⟩ := h
    have e02 := e1.trans e2
    obtain ⟨d, hd1, hx2⟩ := hs3.at hx
    rw [List.getElem?_map] at hd1
    obtain ⟨p, hp, rfl⟩ := Option.map_eq_some_iff.mp hd1
    have hpg := hg p (List.mem_of_getElem? hp)
    obtain ⟨c4, u1, u2, rfl, hc4, hu1, hu2⟩ := (td_same e02 hx2).t2
    cases hu2.int_inv
    have hT' := sqt_same e02 hT
    have hT2' := sqt_same e02 hT2
    walk_at "ga"
    rw [List.length_map]
    refine ⟨_, p.1, b.fr.length, rfl, hu1, hpg.1, by omega, fun H3 e3 => ?_⟩
    have hc43 := sqt_same e3 hc4
    walk_at "ga"
    refine ⟨_, 0, (n : Int) - 1, rfl, by omega, by omega, ?_⟩
    walk_at "ga"
    exact ⟨_, rfl, e2.trans e3⟩
  · obtain ⟨z, rfl, e2⟩ := h
    walk_at "ga"
    exact k H' (e1.trans e2)
def spMach (K : PySem.W.Frag) : Sp := fun vs H Q _ => ∃ (v u : V) (b : Book) (M : Mach), vs = [v, u] ∧ TD K H v b.enc ∧ b.Ok ∧ TD K H u (encMach M) ∧ MOk b M ∧ ∀ H', Same H H' → Q (.bl true) H'
theorem sc_is_machine : FnScope ["book", "thing", "stand"] ["book", "thing"] (defScope s_is_machine) := ⟨rfl, rfl, rfl, by decide +kernel, rfl, by decide +kernel, by decide +kernel⟩
theorem ok_is_machine (D : Hd K mg) : OkG P w K mg base "is_machine" ["book", "thing"] 4 (spMach K) := by
  have G_is_stand := ok_is_stand (P := P) (w := w) (base := base) D
  obtain ⟨t0, gc_STANDS⟩ := g_STANDS D
  obtain ⟨fd, F⟩ := F_is_machine D
  refine ⟨g_is_machine D, F.kp, fd, F.ok sc_is_machine (fun vs H Q E h => ?_) (fun cdv A outer sS H vs Q E hr h => ?_), F.bindsN fun _ _ _ _ _ _ us hl => match us, hl with | [_, _], _ => rfl⟩
  · obtain ⟨v, u, b, M, rfl, _⟩ := h
    rfl
  obtain ⟨v, u, b, M, rfl, hv, hb, hu, hM, k⟩ := h
  obtain ⟨c3, y3, rfl, hT3, hs3⟩ := hu.tup_inv
  have hyl : y3.length = M.length := by rw [hs3.length, List.length_map]
  have hM1 := hM.one
  have hM2 := hM.most
  refine ⟨_, (PSs.nox (pss_cons (ps_if (PW.pt (pw_or (pt_not (pt_val (pe_callB (cl_isiK K) (by rfl) (g_isinstance D) (by decide +kernel) (pa_cons (pv 1) (pa_cons (pe_bltn (v := .ty "tuple") (by rfl) (g_tuple D) (by decide +kernel) rfl) pa_nil))))) (pw_or1 (pt_not (pt_chain op_le op_le pe_int (pe_callB (cl_lenK K) (by rfl) (g_len D) (by decide +kernel) (pa_cons (pv 1) pa_nil)) (pe_gint gc_STANDS)))))) (pss_one (ps_ret pe_bl)) pss_nil)
      (pss_one (ps_ret (pe_callB (cr_allK K rfl) (by rfl) (g_all D) (by decide +kernel) (pa_cons (pe_lc (own := [("stand", 2)]) (g := gName 2) (tt := tYes) (by rfl) sc_is_machine.nd (pi_tupK K (pv 1)) (blkOk_by (N := ["book", "thing", "stand"]) (sc := defScope s_is_machine) (by decide +kernel)) (fun _ _ _ _ _ => (pg_name (i := 2) sc_is_machine.nd rfl (Or.inl rfl))) (fun _ _ _ _ _ => pts_nil) (fun _ _ _ _ _ => (pe_cl G_is_stand hr (pa_cons (pv 0) (pa_cons (pv 2) (pa_cons (pe_callB (cl_lenK K) (by rfl) (g_len D) (by decide +kernel) (pa_cons (pv 1) pa_nil)) pa_nil)))))) pa_nil)))))), ?_⟩
  walk_at "ga"
  refine l_iT (decide_eq_true (by omega)) ?_
  walk_at "ga"
  refine l_iF (by rw [decide_eq_true (by omega)]; rfl) ?_
  walk_at "ga"
  refine lcT hT3 (fun i => List.replicate i (V.bl true)) rfl (fun Dd i x H' hD hx e hm => ?_) (fun Dd H' hD e hm => ?_)
  · obtain ⟨d, hd1, hx2⟩ := hs3.at hx
    rw [List.getElem?_map] at hd1
    obtain ⟨row, hrow, rfl⟩ := Option.map_eq_some_iff.mp hd1
    have hrm := List.mem_of_getElem? hrow
    have hi := (List.getElem?_eq_some_iff.mp hrow).1
    have hT3' := sqt_same e hT3
    walk_at "go"
    refine ⟨rfl, ?_⟩
    walk_at "ga"
    rw [hyl]
    refine ⟨_, x, b, row, M.length, rfl, td_same e hv, hb, td_same e hx2, hM.wide row hrm, hM.good row hrm, fun H2 e2 => ?_⟩
    exact lc_put hD (e.trans e2) (e2 _ _ hm) (szl (by rw [List.length_replicate]; omega)) (by rw [List.replicate_succ'])
  · walk_at "go"
    refine l_all (bs := List.replicate _ true) (by rw [← replicate_bl]; exact SqL.of hm) ?_
    rw [all_rep]
    exact k H' e
def spNeedM (K : PySem.W.Frag) : Sp := fun vs H Q _ => ∃ (v u : V) (b : Book) (M : Mach), vs = [v, u] ∧ TD K H v b.enc ∧ b.Ok ∧ TD K H u (encMach M) ∧ MOk b M ∧ ∀ H', Same H H' → Q .non H'
theorem sc_need_machine : FnScope ["book", "machine"] ["book", "machine"] (defScope s_need_machine) := ⟨rfl, rfl, rfl, by decide +kernel, rfl, by decide +kernel, by decide +kernel⟩
theorem ok_need_machine (D : Hd K mg) : OkG P w K mg base "need_machine" ["book", "machine"] 5 (spNeedM K) := by
  have G_is_machine := ok_is_machine (P := P) (w := w) (base := base) D
  obtain ⟨fd, F⟩ := F_need_machine D
  refine ⟨g_need_machine D, F.kp, fd, F.ok sc_need_machine (fun vs H Q E h => ?_) (fun cdv A outer sS H vs Q E hr h => ?_), F.bindsN fun _ _ _ _ _ _ us hl => match us, hl with | [_, _], _ => rfl⟩
  · obtain ⟨v, u, b, M, rfl, _⟩ := h
    rfl
  obtain ⟨v, u, b, M, rfl, hv, hb, hu, hM, k⟩ := h
  refine ⟨_, (PSs.nox (pss_one (ps_if (pt_not (pt_val (pe_cl G_is_machine hr (pa_cons (pv 0) (pa_cons (pv 1) pa_nil))))) (pss_one ps_never) pss_nil))), ?_⟩
  walk_at "ga"
  refine ⟨_, _, b, M, rfl, hv, hb, hu, hM, fun H1 e1 => ?_⟩
  walk_at "ga"
  exact k H1 e1
def spChkM (K : PySem.W.Frag) : Sp := fun vs H Q _ => ∃ (v u : V) (b : Book) (M : Mach), vs = [v, u] ∧ TD K H v b.enc ∧ b.Ok ∧ TD K H u (encMach M) ∧ MOk b M ∧ ∀ H', Same H H' → Q u H'
theorem sc_checked_machine : FnScope ["book", "machine"] ["book", "machine"] (defScope s_checked_machine) := ⟨rfl, rfl, rfl, by decide +kernel, rfl, by decide +kernel, by decide +kernel⟩
theorem ok_checked_machine (D : Hd K mg) : OkG P w K mg base "checked_machine" ["book", "machine"] 14 (spChkM K) := by
  have G_checked := ok_checked (P := P) (w := w) (base := base) D
  have G_need_machine := ok_need_machine (P := P) (w := w) (base := base) D
  obtain ⟨fd, F⟩ := F_checked_machine D
  refine ⟨g_checked_machine D, F.kp, fd, F.ok sc_checked_machine (fun vs H Q E h => ?_) (fun cdv A outer sS H vs Q E hr h => ?_), F.bindsN fun _ _ _ _ _ _ us hl => match us, hl with | [_, _], _ => rfl⟩
  · obtain ⟨v, u, b, M, rfl, _⟩ := h
    rfl
  obtain ⟨v, u, b, M, rfl, hv, hb, hu, hM, k⟩ := h
  refine ⟨_, (PSs.nox (pss_cons (ps_expr (pe_cl G_need_machine hr (pa_cons (pe_cl G_checked hr (pa_cons (pv 0) pa_nil)) (pa_cons (pv 1) pa_nil))))
      (pss_one (ps_ret (pv 1))))), ?_⟩
  walk_at "ga"
  refine ⟨_, b, rfl, hv, hb, fun H1 e1 => ?_⟩
  walk_at "ga"
  refine ⟨_, _, b, M, rfl, td_same e1 hv, hb, td_same e1 hu, hM, fun H2 e2 => ?_⟩
  walk_at "ga"
  exact k H2 (e1.trans e2)
/-! ### run -/
def spRun (K : PySem.W.Frag) : Sp := fun vs H Q _ => ∃ (v u : V) (b : Book) (M : Mach) (l : Addr) (ws : List V) (sets : List (List Bool)), vs = [v, u, .ref l] ∧ TD K H v b.enc ∧ b.Ok ∧ TD K H u (encMach M) ∧ MOk b M ∧ H l = some (.lst ws) ∧ TDs K H ws (sets.map encB) ∧
  (∀ s ∈ sets, s.length = b.foe.length) ∧ sets.length ≤ 100000 ∧ NewL K ((runAux b M 0 sets).map encB) H Q
theorem sc_run : FnScope ["book", "machine", "sets", "foe", "order", "stand", "made", "friend"] ["book", "machine", "sets"] (defScope s_run) := ⟨rfl, rfl, rfl, by decide +kernel, rfl, by decide +kernel, by decide +kernel⟩
theorem ok_run (D : Hd K mg) : OkG P w K mg base "run" ["book", "machine", "sets"] 15 (spRun K) := by
  have G_settings_of := ok_settings_of (P := P) (w := w) (base := base) D
  have G_is_setting := ok_is_setting (P := P) (w := w) (base := base) D
  have G_checked_machine := ok_checked_machine (P := P) (w := w) (base := base) D
  obtain ⟨fd, F⟩ := F_run D
  refine ⟨g_run D, F.kp, fd, F.ok sc_run (fun vs H Q E h => ?_) (fun cdv A outer sS H vs Q E hr h => ?_), F.bindsN fun _ _ _ _ _ _ us hl => match us, hl with | [_, _, _], _ => rfl⟩
  · obtain ⟨v, u, b, M, l, ws, sets, rfl, _⟩ := h
    rfl
  obtain ⟨v, u, b, M, l, ws, sets, rfl, hv, hb, hu, hM, hl, hws, hss, hz, k⟩ := h
  obtain ⟨c, x1, x2, x3, x4, x5, rfl, hT, g1, g2, g3, g4, g5⟩ := id hv.t5
  obtain ⟨c1, y1, rfl, hT1, hs1⟩ := g1.tup_inv
  cases hs1.strs_inv
  obtain ⟨c3, y3, rfl, hT3, hs3⟩ := id hu.tup_inv
  have hwl : ws.length = sets.length := by rw [hws.length, List.length_map]
  have hf2 := hb.foe2
  have hr2 := hb.fr2
  refine ⟨_, (PSs.nox (pss_cons (ps_expr (pe_cl G_checked_machine hr (pa_cons (pv 0) (pa_cons (pv 1) pa_nil))))
      (pss_cons (ps_if (PW.pt (pw_or (pt_not (pt_val (pe_callB (cl_isiK K) (by rfl) (g_isinstance D) (by decide +kernel) (pa_cons (pv 2) (pa_cons (pe_bltn (v := .ty "list") (by rfl) (g_list D) (by decide +kernel) rfl) pa_nil))))) (pw_or1 (pt_not (pt_val (pe_callB (cr_allK K rfl) (by rfl) (g_all D) (by decide +kernel) (pa_cons (pe_lc (own := [("foe", 3)]) (g := gName 3) (tt := tYes) (by rfl) sc_run.nd (pi_listK K (pv 2)) (blkOk_by (N := ["book", "machine", "sets", "foe", "order", "stand", "made", "friend"]) (sc := defScope s_run) (by decide +kernel)) (fun _ _ _ _ _ => (pg_name (i := 3) sc_run.nd rfl (Or.inl rfl))) (fun _ _ _ _ _ => pts_nil) (fun _ _ _ _ _ => (pe_cl G_is_setting hr (pa_cons (pv 3) (pa_cons (pe_callB (cl_lenK K) (by rfl) (g_len D) (by decide +kernel) (pa_cons (pe_ix (ix_tupK K) (pv 0) pe_int (fun _ _ => rfl)) pa_nil)) pa_nil))))) pa_nil))))))) (pss_one ps_never) pss_nil)
      (pss_cons (ps_set (i := 4) sc_run.nd rfl (Or.inl rfl) (pe_cl G_settings_of hr (pa_cons (pe_callB (cl_lenK K) (by rfl) (g_len D) (by decide +kernel) (pa_cons (pe_ix (ix_tupK K) (pv 0) pe_int (fun _ _ => rfl)) pa_nil)) pa_nil)))
      (pss_cons (ps_set (i := 5) sc_run.nd rfl (Or.inl rfl) pe_int)
      (pss_cons (ps_set (i := 6) sc_run.nd rfl (Or.inl rfl) (pe_lst pa_nil))
      (pss_cons (ps_for PassesOwn.never rfl (pi_listK K (pv 2)) (pg_name (i := 3) sc_run.nd rfl (Or.inl rfl)) (pss_cons (ps_asg (pe_ix (ix_tupK K) (pe_ix (ix_tupK K) (pv 1) (pv 5) (fun _ _ => rfl)) (pe_bmK K PySem.F.plainAttrs_list PySem.F.slot_list_index PySem.F.type_list_index (mt_ixDK K (hu65 hr)) (pv 4) (pa_cons (pv 3) pa_nil)) (fun _ _ => rfl)) (pg_tupK K (n := 2) rfl (pgs_cons (pg_name (i := 7) sc_run.nd rfl (Or.inl rfl)) (pgs_cons (pg_name (i := 5) sc_run.nd rfl (Or.inl rfl)) pgs_nil))))
      (pss_one (ps_expr (pe_bmK K PySem.F.plainAttrs_list PySem.F.slot_list_append PySem.F.type_list_append mt_append (pv 6) (pa_cons (pe_op (op_catAK K) (pv 3) (pv 7)) pa_nil))))))
      (pss_one (ps_ret (pv 6)))))))))), ?_⟩
  walk_at "ga"
  refine ⟨_, _, b, M, rfl, hv, hb, hu, hM, fun H1 e1 => ?_⟩
  have hl1 := e1 _ _ hl
  walk_at "ga"
  refine lcL (SqL.of hl1) (fun i => List.replicate i (V.bl true)) rfl (fun Dd i x H' hD hx e hm => ?_) (fun Dd H2 hD e2 hm => ?_)
  · have e' := e1.trans e
    obtain ⟨d, hd1, hx2⟩ := hws.at hx
    rw [List.getElem?_map] at hd1
    obtain ⟨s, hs, rfl⟩ := Option.map_eq_some_iff.mp hd1
    have hi := (List.getElem?_eq_some_iff.mp hs).1
    have hT' := sqt_same e' hT
    have hT1' := sqt_same e' hT1
    walk_at "go"
    refine ⟨rfl, ?_⟩
    walk_at "ga"
    rw [List.length_map]
    refine ⟨_, s, b.foe.length, rfl, td_same e' hx2, hss s (List.mem_of_getElem? hs), by omega, fun H2 e2 => ?_⟩
    exact lc_put hD (e.trans e2) (e2 _ _ hm) (szl (by rw [List.length_replicate]; omega)) (by rw [List.replicate_succ'])
  walk_at "go"
  refine l_all (bs := List.replicate _ true) (by rw [← replicate_bl]; exact SqL.of hm) ?_
  rw [all_rep]
  have e02 := e1.trans e2
  have hT' := sqt_same e02 hT
  have hT1' := sqt_same e02 hT1
  walk_at "ga"
  rw [List.length_map]
  refine ⟨b.foe.length, rfl, by omega, fun l3 ws3 H3 e3 hl3 hm3 hw3 => ?_⟩
  have e03 := e02.trans e3
  have hl3' := e03 _ _ hl
  walk_at "ga"
  refine l_mkL0 fun l4 H4 e4 hl4 hm4 => ?_
  have e04 := e03.trans e4
  walk_at "ga"
  refine forL (SqL.of (e04 _ _ hl)) (fun i σ' H' => ∃ z zf, σ' = [some (.ref c), some (.ref c3), some (.ref l), z, some (.ref l3), some (.int (standAfter b M 0 (sets.take i) : Nat)), some (.ref l4), zf] ∧ SameBut l4 H4 H' ∧ ∃ us, H' l4 = some (.lst us) ∧ TDs K H' us ((runAux b M 0 (sets.take i)).map encB))
    ⟨_, _, rfl, SameBut.refl l4 H4, [], hm4, .nil⟩ (fun i σ' H' _ h => ?_) (fun i x σ' H' hx h => ?_) (fun σ' H' h => ?_)
  · obtain ⟨z, zf, _, e5, _⟩ := h
    exact SqL.of ((e5.same e4 hl4) _ _ hl3')
  · obtain ⟨z, zf, rfl, e5, us, hm5, hu5⟩ := h
    have e35 : Same H3 H' := e5.same e4 hl4
    have e05 := e03.trans e35
    obtain ⟨d, hd1, hx2⟩ := hws.at hx
    rw [List.getElem?_map] at hd1
    obtain ⟨s, hs, rfl⟩ := Option.map_eq_some_iff.mp hd1
    have hsl := hss s (List.mem_of_getElem? hs)
    obtain ⟨cs, rfl, hcs⟩ := (td_same e05 hx2).encB_inv
    have hst : standAfter b M 0 (sets.take i) < M.length := standAfter_lt hM (by have := hM.one; omega) fun y hy => hss y (List.mem_of_mem_take hy)
    have eq1 : standAfter b M 0 (sets.take (i + 1)) = (stepM b M (standAfter b M 0 (sets.take i)) s).2 := by rw [take_get hs, standAfter_snoc]
    have eq2 : runAux b M 0 (sets.take (i + 1)) = runAux b M 0 (sets.take i) ++ [s ++ (stepM b M (standAfter b M 0 (sets.take i)) s).1] := by rw [take_get hs, runAux_snoc]
    have hlen : us.length < sizeLine := by
      have hi := (List.getElem?_eq_some_iff.mp hs).1
      have : ∀ (l : List (List Bool)) (s : Nat), (runAux b M s l).length = l.length := by
        intro l
        induction l with
        | nil => intro s; rfl
        | cons x l ih => intro s; show _ + 1 = _ + 1; rw [ih]
      exact szl (by rw [hu5.length, List.length_map, this, List.length_take]; omega)
    rw [eq1, eq2]
    generalize standAfter b M 0 (sets.take i) = st at hst ⊢
    obtain ⟨row, r1, r2, r3, r4⟩ := stepM_mem hM hst hsl
    obtain ⟨u1, p1, p2⟩ := hs3.get (i := st) (d := encStand row) (by rw [List.getElem?_map, r1]; rfl)
    obtain ⟨ca, ya, rfl, hTa, hsa⟩ := p2.tup_inv
    obtain ⟨u2, p3, p4⟩ := hsa.get (i := ixOf s (settings b.foe.length)) (d := encPair (stepM b M st s)) (by rw [List.getElem?_map, r2]; rfl)
    obtain ⟨cb, w1, w2, rfl, hTb, q1, q2⟩ := p4.t2
    cases q2.int_inv
    obtain ⟨cf, rfl, hcf⟩ := (td_same e05 q1).encB_inv
    have hTb' := sqt_same e05 hTb
    walk_at "ga"
    refine l_ixT (sqt_same e05 hT3) (atI_nat p1) ?_
    walk_at "ga"
    refine ⟨tyv_list (SqL.of (e35 _ _ hm3)), ?_⟩
    walk_at "ga"
    refine l_ixB (SqL.of (e35 _ _ hm3)) (tds_same e35 hw3) hcs (settings_all hsl) ?_
    refine l_ixT (sqt_same e05 hTa) (atI_nat p3) ?_
    walk_at "ga"
    refine ⟨tyv_list (SqL.of hm5), ?_⟩
    walk_at "ga"
    refine l_catD hcs hcf (sz (by rw [List.length_map, List.length_map]; omega)) fun c6 H6 e6 hc6 => ?_
    walk_at "ga"
    have hm6 := e6 _ _ hm5
    refine l_appN hm6 hlen fun H7 e7 hm7 => ?_
    refine ⟨_, _, rfl, (e5.trans (SameBut.of_same e6)).trans e7, _, hm7, ?_⟩
    rw [List.map_append]
    refine ((tds_same e6 hu5).mono (e7.tup hm6)).append (.one (td_encB ?_))
    rw [List.map_append]
    exact (e7.tup hm6) _ _ hc6
  · obtain ⟨z, zf, rfl, e5, us, hm5, hu5⟩ := h
    rw [hwl, List.take_length] at hu5
    walk_at "ga"
    exact k l4 us H' (e03.trans (e5.same e4 hl4)) (e03.free hl4) hm5 hu5
end
/-! ### graphs and ways -/
abbrev Gr := List (List (Int × Nat))
def Gr.Ok (G : Gr) : Prop := ∀ es ∈ G, ∀ e ∈ es, e.2 < G.length
def Gr.at (G : Gr) (v : Nat) : List (Int × Nat) := G.getD v []
/-- a way of k edges and its weight -/
inductive Way (G : Gr) : Nat → Nat → Nat → Int → Prop
  | nil (u : Nat) : Way G 0 u u 0
  | snoc {k u v : Nat} {x l : Int} {t : Nat} : Way G k u v x → (l, t) ∈ G.at v → Way G (k + 1) u t (x + l)
theorem Gr.at_get {G : Gr} {v : Nat} (h : v < G.length) : G[v]? = some (G.at v) := by
  unfold Gr.at
  rw [List.getD_eq_getElem?_getD, List.getElem?_eq_getElem h, Option.getD_some]
theorem Gr.at_mem {G : Gr} {v : Nat} {e : Int × Nat} (h : e ∈ G.at v) : v < G.length := by
  by_cases q : v < G.length
  · exact q
  · unfold Gr.at at h
    rw [List.getD_eq_getElem?_getD, List.getElem?_eq_none (by omega), Option.getD_none] at h
    cases h
theorem Gr.Ok.to {G : Gr} (hG : G.Ok) {v : Nat} {e : Int × Nat} (h : e ∈ G.at v) : e.2 < G.length := by
  have hv := Gr.at_mem h
  exact hG _ (List.mem_of_getElem? (Gr.at_get hv)) e h
theorem Way.lt {G : Gr} (hG : G.Ok) {k u v : Nat} {x : Int} (h : Way G k u v x) (hu : u < G.length) : v < G.length := by
  cases h with
  | nil => exact hu
  | snoc _ e => exact hG.to e
theorem Way.app {G : Gr} {k u v : Nat} {x : Int} (h : Way G k u v x) : ∀ {m z : Nat} {y : Int}, Way G m v z y → Way G (k + m) u z (x + y) := by
  intro m z y h2
  induction h2 with
  | nil => rw [Int.add_zero]; exact h
  | snoc _ e ih => rw [← Int.add_assoc]; exact .snoc (ih h) e
/-- the nodes that come, in order -/
def nrows (G : Gr) : Nat → List Nat
  | 0 => [0]
  | i + 1 => match (nrows G i)[i]? with
    | some v => addAll (nrows G i) ((G.at v).map (·.2))
    | none => nrows G i
def metM (G : Gr) : List Nat := nrows G G.length
theorem nrows_step {G : Gr} {i v : Nat} (h : (nrows G i)[i]? = some v) : nrows G (i + 1) = addAll (nrows G i) ((G.at v).map (·.2)) := by
  rw [nrows.eq_2, h]
theorem nrows_none {G : Gr} {i : Nat} (h : (nrows G i)[i]? = none) : nrows G (i + 1) = nrows G i := by
  rw [nrows.eq_2, h]
theorem nrows_ok {G : Gr} (hG : G.Ok) (h0 : 0 < G.length) : ∀ i, (nrows G i).Nodup ∧ (∀ v ∈ nrows G i, v < G.length) ∧ 0 ∈ nrows G i
  | 0 => ⟨List.nodup_cons.mpr ⟨(fun z => nomatch z), List.nodup_nil⟩, fun v hv => by rw [List.mem_singleton.mp hv]; exact h0, List.mem_singleton.mpr rfl⟩
  | i + 1 => by
    obtain ⟨h1, h2, h3⟩ := nrows_ok hG h0 i
    cases hi : (nrows G i)[i]? with
    | none => rw [nrows_none hi]; exact ⟨h1, h2, h3⟩
    | some v =>
      rw [nrows_step hi]
      refine ⟨nd_addAll _ h1, fun y hy => ?_, (mem_addAll _).mpr (.inl h3)⟩
      rcases (mem_addAll _).mp hy with hy | hy
      · exact h2 y hy
      · obtain ⟨e, he, rfl⟩ := List.mem_map.mp hy
        exact hG.to he
theorem nrows_len {G : Gr} (hG : G.Ok) (h0 : 0 < G.length) (i : Nat) : (nrows G i).length ≤ G.length := by
  have h := nodup_len (m := List.range G.length) (nrows_ok hG h0 i).1 fun v hv => List.mem_range.mpr ((nrows_ok hG h0 i).2.1 v hv)
  rwa [List.length_range] at h
theorem nrows_stop {G : Gr} {i : Nat} (h : (nrows G i).length ≤ i) : ∀ j, i ≤ j → nrows G j = nrows G i
  | 0, hj => by rw [Nat.le_zero.mp hj]
  | j + 1, hj => by
    by_cases e : i = j + 1
    · rw [e]
    · have ih := nrows_stop h j (by omega)
      rw [nrows_none (List.getElem?_eq_none (by rw [ih]; omega))]
      exact ih
theorem metM_eq {G : Gr} (hG : G.Ok) (h0 : 0 < G.length) {i : Nat} (h : (nrows G i).length ≤ i) : metM G = nrows G i := by
  unfold metM
  by_cases hi : i ≤ G.length
  · exact nrows_stop h _ hi
  · exact (nrows_stop (nrows_len hG h0 G.length) i (by omega)).symm
theorem nrows_closed {G : Gr} : ∀ i, ∀ j v, j < i → (nrows G i)[j]? = some v → ∀ e ∈ G.at v, e.2 ∈ nrows G i
  | 0, j, v, h, _ => by omega
  | i + 1, j, v, h, hg => by
    intro e he
    cases hi : (nrows G i)[i]? with
    | none =>
      rw [nrows_none hi] at hg ⊢
      have hj : j < i := by
        have := (List.getElem?_eq_some_iff.mp hg).1
        have := List.getElem?_eq_none_iff.mp hi
        omega
      exact nrows_closed i j v hj hg e he
    | some m2 =>
      have hil := (List.getElem?_eq_some_iff.mp hi).1
      rw [nrows_step hi] at hg ⊢
      obtain ⟨t, ht⟩ := addAll_ext ((G.at m2).map (·.2)) (nrows G i)
      rw [ht, List.getElem?_append_left (by omega)] at hg
      by_cases e2 : j = i
      · subst e2
        rw [hi] at hg
        cases hg
        exact (mem_addAll _).mpr (.inr (List.mem_map.mpr ⟨e, he, rfl⟩))
      · exact (mem_addAll _).mpr (.inl (nrows_closed i j v (by omega) hg e he))
theorem metM_0 (G : Gr) : (metM G)[0]? = some 0 := by
  have : ∀ i, (nrows G i)[0]? = some 0 := by
    intro i
    induction i with
    | zero => rfl
    | succ i ih =>
      cases hi : (nrows G i)[i]? with
      | none => rw [nrows_none hi]; exact ih
      | some m =>
        obtain ⟨t, ht⟩ := addAll_ext ((G.at m).map (·.2)) (nrows G i)
        rw [nrows_step hi, ht, List.getElem?_append_left (List.getElem?_eq_some_iff.mp ih).1]
        exact ih
  exact this _
/-- where every node comes, the row is whole -/
theorem metM_len {G : Gr} (hG : G.Ok) (h0 : 0 < G.length) (hr : ∀ v, v < G.length → ∃ k x, Way G k 0 v x) : (metM G).length = G.length := by
  refine Nat.le_antisymm (nrows_len hG h0 _) ?_
  have hc : ∀ k u v x, Way G k u v x → u = 0 → v ∈ metM G := by
    intro k u v x h
    induction h with
    | nil u => rintro rfl; exact (nrows_ok hG h0 _).2.2
    | @snoc k u v x l t _ e ih =>
      intro hu
      obtain ⟨j, hj, e2⟩ := List.mem_iff_getElem.mp (ih hu)
      have hlt : j < G.length := Nat.lt_of_lt_of_le hj (nrows_len hG h0 _)
      exact nrows_closed G.length j v hlt (List.getElem?_eq_some_iff.mpr ⟨hj, e2⟩) _ e
  have h := nodup_len (l := List.range G.length) (m := metM G) List.nodup_range fun v hv => by
    obtain ⟨k, x, hw⟩ := hr v (List.mem_range.mp hv)
    exact hc k 0 v x hw rfl
  rwa [List.length_range] at h
section
variable {P : Program} {w : World} {K : PySem.W.Frag} {mg : Str → Option Value} {base : Heap}
def encE (e : Int × Nat) : PyData := .tuple [.int e.1, .int (e.2 : Nat)]
def EdgesAt (K : PySem.W.Frag) (H : Hp) (v : V) (es : List (Int × Nat)) : Prop := ∃ a us, v = .ref a ∧ H a = some (.lst us) ∧ TDs K H us (es.map encE)
def GraphAt (K : PySem.W.Frag) (H : Hp) (g : Addr) (G : Gr) : Prop := ∃ gs, H g = some (.lst gs) ∧ Paired (EdgesAt K H) gs G
theorem EdgesAt.same {H H' : Hp} {v : V} {es : List (Int × Nat)} (e : Same H H') (h : EdgesAt K H v es) : EdgesAt K H' v es := by
  obtain ⟨a, us, rfl, h1, h2⟩ := h
  exact ⟨a, us, rfl, e _ _ h1, tds_same e h2⟩
theorem GraphAt.same {H H' : Hp} {g : Addr} {G : Gr} (e : Same H H') (h : GraphAt K H g G) : GraphAt K H' g G := by
  obtain ⟨gs, h1, h2⟩ := h
  exact ⟨gs, e _ _ h1, Paired.mapP h2 fun _ _ z => z.same e⟩
theorem paired_get {α β : Type} {F : α → β → Prop} : ∀ {l : List α} {m : List β} {i : Nat} {e : β}, Paired F l m → m[i]? = some e → ∃ v, l[i]? = some v ∧ F v e
  | _, _, 0, _, .cons a _, e => by cases e; exact ⟨_, rfl, a⟩
  | _, _, i + 1, _, .cons _ r, e => by
    obtain ⟨v, h1, h2⟩ := paired_get (i := i) r (by simpa using e)
    exact ⟨v, by simpa using h1, h2⟩
theorem GraphAt.row {H : Hp} {g : Addr} {G : Gr} (h : GraphAt K H g G) {v : Nat} (hv : v < G.length) : ∃ gs a us, H g = some (.lst gs) ∧ gs[v]? = some (.ref a) ∧ H a = some (.lst us) ∧ TDs K H us ((G.at v).map encE) := by
  obtain ⟨gs, h1, h2⟩ := h
  obtain ⟨u, hu, a, us, rfl, h3, h4⟩ := paired_get h2 (Gr.at_get hv)
  exact ⟨gs, a, us, h1, hu, h3, h4⟩
def vNats (ns : List Nat) : List V := ns.map fun n => V.int (n : Nat)
theorem inV_nats (n : Nat) (ns : List Nat) : inV (.int (n : Nat)) (vNats ns) = decide (n ∈ ns) := by
  refine bool_iff ?_
  unfold inV vNats
  rw [List.any_eq_true]
  constructor
  · rintro ⟨d, hd, e⟩
    obtain ⟨y, hy, rfl⟩ := List.mem_map.mp hd
    have e2 : (y : Int) = n := by simpa [eqV] using e
    rw [← Int.ofNat_inj.mp e2]
    exact hy
  · intro h
    exact ⟨_, List.mem_map.mpr ⟨n, h, rfl⟩, by simp [eqV]⟩
theorem flat_nats (ns : List Nat) : (vNats ns).all flatV = true := by
  rw [List.all_eq_true]
  intro x hx
  obtain ⟨y, _, rfl⟩ := List.mem_map.mp hx
  rfl
theorem vNats_len (ns : List Nat) : (vNats ns).length = ns.length := by unfold vNats; rw [List.length_map]
theorem vNats_get {ns : List Nat} {i n : Nat} (h : ns[i]? = some n) : (vNats ns)[i]? = some (.int (n : Nat)) := by unfold vNats; rw [List.getElem?_map, h]; rfl
theorem vNats_snoc (ns : List Nat) (n : Nat) : vNats (ns ++ [n]) = vNats ns ++ [.int (n : Nat)] := by unfold vNats; rw [List.map_append]; rfl
/-! ### met_from -/
def spMet (K : PySem.W.Frag) : Sp := fun vs H Q _ => ∃ (g : Addr) (G : Gr), vs = [.ref g, .int 0] ∧ GraphAt K H g G ∧ G.Ok ∧ 0 < G.length ∧ G.length ≤ 1000 ∧ ∀ l H', Same H H' → H l = none → H' l = some (.lst (vNats (metM G))) → Q (.ref l) H'
theorem sc_met_from : FnScope ["graph", "first", "row", "at", "loss", "to"] ["graph", "first"] (defScope s_met_from) := ⟨rfl, rfl, rfl, by decide +kernel, rfl, by decide +kernel, by decide +kernel⟩
theorem ok_met_from (D : Hd K mg) : OkG P w K mg base "met_from" ["graph", "first"] 1 (spMet K) := by
  obtain ⟨fd, F⟩ := F_met_from D
  refine ⟨g_met_from D, F.kp, fd, F.ok sc_met_from (fun vs H Q E h => ?_) (fun cdv A outer sS H vs Q E hr h => ?_), F.bindsN fun _ _ _ _ _ _ us hl => match us, hl with | [_, _], _ => rfl⟩
  · obtain ⟨g, G, rfl, _⟩ := h
    rfl
  obtain ⟨g, G, rfl, hg, hG, h0, hz, k⟩ := h
  refine ⟨_, (PSs.nox (pss_cons (ps_set (i := 2) sc_met_from.nd rfl (Or.inl rfl) (pe_lst (pa_cons (pv 1) pa_nil)))
      (pss_cons (ps_set (i := 3) sc_met_from.nd rfl (Or.inl rfl) pe_int)
      (pss_cons (ps_while PassesOwn.never (pt_cmpR op_lt (pv 3) (pe_callB (cl_lenK K) (by rfl) (g_len D) (by decide +kernel) (pa_cons (pv 2) pa_nil)) (nomark _)) (pss_cons (ps_for PassesOwn.never rfl (pi_listK K (pe_ix (ix_listK K) (pv 0) (pe_ix (ix_listK K) (pv 2) (pv 3) (fun _ _ => rfl)) (fun _ _ => rfl))) (pg_tupK K (n := 2) rfl (pgs_cons (pg_name (i := 4) sc_met_from.nd rfl (Or.inl rfl)) (pgs_cons (pg_name (i := 5) sc_met_from.nd rfl (Or.inl rfl)) pgs_nil))) (pss_one (ps_if (pt_cmpR (op_niK K) (pv 5) (pv 2) (by rfl)) (pss_one (ps_expr (pe_bmK K PySem.F.plainAttrs_list PySem.F.slot_list_append PySem.F.type_list_append mt_append (pv 2) (pa_cons (pv 5) pa_nil)))) pss_nil)))
      (pss_one (ps_set (i := 3) sc_met_from.nd rfl (Or.inl rfl) (pe_op op_add (pv 3) pe_int)))))
      (pss_one (ps_ret (pv 2))))))), ?_⟩
  walk_at "ga"
  refine l_mkL (by show 1 ≤ sizeLine; decide) fun l H1 e1 hl hm => ?_
  walk_at "ga"
  refine whileN (G.length + 1) (fun i σ' H' => ∃ (z1 z2 : Option V), σ' = [some (.ref g), some (.int 0), some (.ref l), some (.int (i : Nat)), z1, z2] ∧ SameBut l H1 H' ∧ H' l = some (.lst (vNats (nrows G i))) ∧ i ≤ (nrows G i).length)
    ⟨_, _, rfl, SameBut.refl l H1, hm, Nat.zero_le _⟩ (fun i σ' H' h => ?_)
  obtain ⟨z1, z2, rfl, e2, hm2, hi⟩ := h
  have hln := nrows_len hG h0 i
  walk_at "ga"
  rw [vNats_len]
  refine l_i2 (fun e => ?_) (fun e => ?_)
  · have hlt : i < (nrows G i).length := by have := of_decide_eq_true e; omega
    refine wturn (by omega) ?_
    obtain ⟨v, hv⟩ : ∃ v, (nrows G i)[i]? = some v := ⟨_, List.getElem?_eq_getElem hlt⟩
    have hvl := (nrows_ok hG h0 i).2.1 v (List.mem_of_getElem? hv)
    have e02 : Same H H' := e2.same e1 hl
    obtain ⟨gs, a, us, p1, p2, p3, p4⟩ := (hg.same e02).row hvl
    have hul : us.length = (G.at v).length := by rw [p4.length, List.length_map]
    have ha0 : ∃ o, H a = some o := by
      obtain ⟨gs', a', us', q1, q2, q3, q4⟩ := hg.row hvl
      have := e02 _ _ q1
      rw [p1] at this
      cases this
      rw [p2] at q2
      cases q2
      exact ⟨_, q3⟩
    have nal : a ≠ l := by obtain ⟨o, ho⟩ := ha0; exact ne_of_none ho hl
    walk_at "ga"
    refine l_ixL (SqL.of hm2) (atI_nat (vNats_get hv)) ?_
    refine l_ixL (SqL.of p1) (atI_nat p2) ?_
    have ext := nrows_step hv
    refine forL (SqL.of p3) (fun q σ' H3 => ∃ (z1 z2 : Option V), σ' = [some (.ref g), some (.int 0), some (.ref l), some (.int (i : Nat)), z1, z2] ∧ SameBut l H' H3 ∧ H3 l = some (.lst (vNats (addAll (nrows G i) (((G.at v).take q).map (·.2))))))
      ⟨_, _, rfl, SameBut.refl l H', hm2⟩ (fun q σ' H3 _ h => ?_) (fun q x σ' H3 hx h => ?_) (fun σ' H3 h => ?_)
    · obtain ⟨_, _, _, e3, _⟩ := h
      exact SqL.of (e3 _ _ nal p3)
    · obtain ⟨y1, y2, rfl, e3, hm3⟩ := h
      obtain ⟨d, hd1, hx2⟩ := p4.at hx
      rw [List.getElem?_map] at hd1
      obtain ⟨e, he, rfl⟩ := Option.map_eq_some_iff.mp hd1
      have hx3 : TD K H3 x (encE e) := hx2.mono (e3.tup hm2)
      obtain ⟨c, u1, u2, rfl, hc, q1, q2⟩ := hx3.t2
      cases q1.int_inv
      cases q2.int_inv
      have step : addAll (nrows G i) (((G.at v).take (q + 1)).map (·.2)) = add1 (addAll (nrows G i) (((G.at v).take q).map (·.2))) e.2 := by
        rw [take_get he, List.map_append, addAll_app]
        rfl
      have hrl : (addAll (nrows G i) (((G.at v).take q).map (·.2))).length ≤ G.length := by
        have h := nodup_len (m := List.range G.length) (nd_addAll (((G.at v).take q).map (·.2)) (nrows_ok hG h0 i).1) fun y hy => List.mem_range.mpr (by
          rcases (mem_addAll _).mp hy with hy | hy
          · exact (nrows_ok hG h0 i).2.1 y hy
          · obtain ⟨e, he, rfl⟩ := List.mem_map.mp hy
            exact hG.to (List.mem_of_mem_take he))
        rwa [List.length_range] at h
      rw [step]
      generalize addAll (nrows G i) (((G.at v).take q).map (·.2)) = R at hm3 hrl ⊢
      walk_at "ga"
      refine l_inL (SqL.of hm3) rfl (flat_nats _) ?_
      rw [if_pos rfl, inV_nats]
      walk_at "go"
      by_cases hin : e.2 ∈ R
      · refine l_iF (by rw [decide_eq_true hin]; rfl) ?_
        walk_at "ga"
        refine ⟨_, _, rfl, e3, ?_⟩
        unfold add1
        rw [if_pos hin]
        exact hm3
      · refine l_iT (by rw [decide_eq_false hin]; rfl) ?_
        walk_at "ga"
        refine ⟨tyv_list (SqL.of hm3), ?_⟩
        walk_at "ga"
        refine l_appN hm3 (szl (by rw [vNats_len]; omega)) fun H4 e4 hm4 => ?_
        refine ⟨_, _, rfl, e3.trans e4, ?_⟩
        unfold add1
        rw [if_neg hin, vNats_snoc]
        exact hm4
    · obtain ⟨y1, y2, rfl, e3, hm3⟩ := h
      rw [hul, List.take_length, ← ext] at hm3
      walk_at "ga"
      refine ⟨_, _, rfl, e2.trans e3, hm3, ?_⟩
      obtain ⟨t, ht⟩ := addAll_ext ((G.at v).map (·.2)) (nrows G i)
      rw [ext, ht, List.length_append]
      omega
  · have hge : (nrows G i).length ≤ i := by have := of_decide_eq_false e; omega
    walk_at "ga"
    rw [← metM_eq hG h0 hge] at hm2
    exact k l H' (e2.same e1 hl) hl hm2
/-! ### divisor, lowest -/
def spDiv : Sp := fun vs H Q _ => ∃ a b : Int, vs = [.int a, .int b] ∧ 0 < b ∧ Q (.int (Int.gcd a b : Nat)) H
theorem sc_divisor : FnScope ["a", "b", "left"] ["a", "b"] (defScope s_divisor) := ⟨rfl, rfl, rfl, by decide +kernel, rfl, by decide +kernel, by decide +kernel⟩
theorem gcd_mod (a b : Int) : Int.gcd b (a % b) = Int.gcd a b := by
  rw [Int.emod_def, Int.gcd_sub_mul_left_right, Int.gcd_comm]
theorem ok_divisor (D : Hd K mg) : OkG P w K mg base "divisor" ["a", "b"] 1 spDiv := by
  obtain ⟨fd, F⟩ := F_divisor D
  refine ⟨g_divisor D, F.kp, fd, F.ok sc_divisor (fun vs H Q E h => ?_) (fun cdv A outer sS H vs Q E hr h => ?_), F.bindsN fun _ _ _ _ _ _ us hl => match us, hl with | [_, _], _ => rfl⟩
  · obtain ⟨a, b, rfl, _⟩ := h
    rfl
  obtain ⟨a, b, rfl, hb, k⟩ := h
  refine ⟨_, (PSs.nox (pss_cons (ps_while PassesOwn.never (pt_cmpR op_gt (pv 1) pe_int (nomark _)) (pss_cons (ps_set (i := 2) sc_divisor.nd rfl (Or.inl rfl) (pe_op op_mod (pv 0) (pv 1)))
      (pss_cons (ps_set (i := 0) sc_divisor.nd rfl (Or.inl rfl) (pv 1))
      (pss_one (ps_set (i := 1) sc_divisor.nd rfl (Or.inl rfl) (pv 2))))))
      (pss_one (ps_ret (pv 0))))), ?_⟩
  walk_at "ga"
  refine whileN (b.toNat + 2) (fun i σ' H' => ∃ (a' b' : Int) (z : Option V), σ' = [some (.int a'), some (.int b'), z] ∧ H' = H ∧ 0 ≤ b' ∧ b' + (i : Nat) ≤ b ∧ Int.gcd a' b' = Int.gcd a b ∧ (b' = 0 → 0 ≤ a')) ⟨a, b, _, rfl, rfl, by omega, by omega, rfl, fun z => by omega⟩ (fun i σ' H' h => ?_)
  obtain ⟨a', b', z, rfl, rfl, h1, h2, h3, h4⟩ := h
  walk_at "ga"
  refine l_i2 (fun e => ?_) (fun e => ?_)
  · have e := of_decide_eq_true e
    refine wturn (by omega) ?_
    walk_at "ga"
    refine l_I e ?_
    walk_at "ga"
    have m1 := Int.emod_nonneg a' (b := b') (by omega)
    have m2 := Int.emod_lt_of_pos a' e
    exact ⟨b', a' % b', _, rfl, rfl, m1, by omega, by rw [gcd_mod]; exact h3, fun _ => by omega⟩
  · have e := of_decide_eq_false e
    have eb : b' = 0 := by omega
    walk_at "ga"
    rw [eb, Int.gcd_zero_right] at h3
    rw [← h3] at k
    have := h4 eb
    rw [show ((a'.natAbs : Nat) : Int) = a' by omega] at k
    exact k
def spLow (K : PySem.W.Frag) : Sp := fun vs H Q _ => ∃ a b : Int, vs = [.int a, .int b] ∧ 0 < b ∧ b < 1000000 ∧ ∀ r H', Same H H' → TD K H' r (.tuple [.int (a / (Int.gcd a b : Nat)), .int (b / (Int.gcd a b : Nat))]) → Q r H'
theorem sc_lowest : FnScope ["up", "down", "by"] ["up", "down"] (defScope s_lowest) := ⟨rfl, rfl, rfl, by decide +kernel, rfl, by decide +kernel, by decide +kernel⟩
theorem ok_lowest (D : Hd K mg) : OkG P w K mg base "lowest" ["up", "down"] 2 (spLow K) := by
  have G_divisor := ok_divisor (P := P) (w := w) (base := base) D
  obtain ⟨fd, F⟩ := F_lowest D
  refine ⟨g_lowest D, F.kp, fd, F.ok sc_lowest (fun vs H Q E h => ?_) (fun cdv A outer sS H vs Q E hr h => ?_), F.bindsN fun _ _ _ _ _ _ us hl => match us, hl with | [_, _], _ => rfl⟩
  · obtain ⟨a, b, rfl, _⟩ := h
    rfl
  obtain ⟨a, b, rfl, hb, hb2, k⟩ := h
  have hg : 0 < Int.gcd a b := by
    have : Int.gcd a b ≠ 0 := fun z => by have := (Int.gcd_eq_zero_iff.mp z).2; omega
    omega
  have hg2 : Int.gcd a b ≤ b.natAbs := Nat.le_of_dvd (by omega) (by have h := Int.gcd_dvd_right a b; exact Int.natAbs_dvd_natAbs.mpr h |> fun z => by simpa using z)
  refine ⟨_, (PSs.nox (pss_cons (ps_set (i := 2) sc_lowest.nd rfl (Or.inl rfl) (pe_cl G_divisor hr (pa_cons (pv 0) (pa_cons (pv 1) pa_nil))))
      (pss_one (ps_ret (pe_tup (pa_cons (pe_op op_fdiv (pv 0) (pv 2)) (pa_cons (pe_op op_fdiv (pv 1) (pv 2)) pa_nil))))))), ?_⟩
  walk_at "ga"
  refine ⟨a, b, rfl, hb, ?_⟩
  walk_at "ga"
  refine l_I ⟨by omega, by omega⟩ ?_
  walk_at "ga"
  refine l_I ⟨by omega, by omega⟩ ?_
  walk_at "ga"
  refine l_mkT (by show 2 ≤ sizeLine; decide) fun p H1 e1 hp hm => ?_
  exact k _ H1 e1 (.tup (SqT.of hm) (.two (.int _) (.int _)))
def spAbove (K : PySem.W.Frag) : Sp := fun vs H Q _ => ∃ (x y : V) (p q r s : Int), vs = [x, y] ∧ TD K H x (.tuple [.int p, .int q]) ∧ TD K H y (.tuple [.int r, .int s]) ∧ 0 < q ∧ q < 1000000 ∧ 0 < s ∧ s < 1000000 ∧ Q (.bl (decide (r * q < p * s))) H
theorem sc_is_above : FnScope ["one", "other"] ["one", "other"] (defScope s_is_above) := ⟨rfl, rfl, rfl, by decide +kernel, rfl, by decide +kernel, by decide +kernel⟩
theorem ok_is_above (D : Hd K mg) : OkG P w K mg base "is_above" ["one", "other"] 1 (spAbove K) := by
  obtain ⟨fd, F⟩ := F_is_above D
  refine ⟨g_is_above D, F.kp, fd, F.ok sc_is_above (fun vs H Q E h => ?_) (fun cdv A outer sS H vs Q E hr h => ?_), F.bindsN fun _ _ _ _ _ _ us hl => match us, hl with | [_, _], _ => rfl⟩
  · obtain ⟨x, y, p, q, r, s, rfl, _⟩ := h
    rfl
  obtain ⟨x, y, p, q, r, s, rfl, hx, hy, h1, h2, h3, h4, k⟩ := h
  obtain ⟨a, u1, u2, rfl, ha, q1, q2⟩ := hx.t2
  cases q1.int_inv
  cases q2.int_inv
  obtain ⟨c, w1, w2, rfl, hc, q3, q4⟩ := hy.t2
  cases q3.int_inv
  cases q4.int_inv
  refine ⟨_, (PSs.nox (pss_one (ps_ret (pe_cmpR op_gt (pe_op op_mul (pe_ix (ix_tupK K) (pv 0) pe_int (fun _ _ => rfl)) (pe_ix (ix_tupK K) (pv 1) pe_int (fun _ _ => rfl))) (pe_op op_mul (pe_ix (ix_tupK K) (pv 1) pe_int (fun _ _ => rfl)) (pe_ix (ix_tupK K) (pv 0) pe_int (fun _ _ => rfl))) (nomark _))))), ?_⟩
  walk_at "ga"
  refine l_I (.inr ⟨by omega, by omega⟩) ?_
  walk_at "ga"
  refine l_I (.inr ⟨by omega, by omega⟩) ?_
  walk_at "ga"
  exact k
end
/-! ### rows of weights -/
abbrev KV2 := List (Key × V)
theorem valV_mem {kvs : KV2} {k : Key} {x : V} (h : valV kvs k = some x) : ∃ i : Nat, kvs[i]? = some (k, x) := by
  unfold valV at h
  obtain ⟨p, hp, rfl⟩ := Option.map_eq_some_iff.mp h
  have h1 := List.find?_some hp
  have h2 := List.mem_of_find?_eq_some hp
  have h1 := of_decide_eq_true h1
  obtain ⟨i, hi, e⟩ := List.mem_iff_getElem.mp h2
  exact ⟨i, by rw [List.getElem?_eq_getElem hi, e, ← h1]⟩
theorem valV_own : ∀ {kvs : KV2}, (kvs.map (·.1)).Nodup → ∀ {p : Key × V}, p ∈ kvs → valV kvs p.1 = some p.2
  | [], _, _, h => nomatch h
  | q :: r, hn, p, h => by
    rw [List.map_cons] at hn
    obtain ⟨h1, h2⟩ := List.nodup_cons.mp hn
    by_cases e : q.1 = p.1
    · rcases List.mem_cons.mp h with z | h
      · rw [z]; exact valV_pos rfl
      · exact absurd (List.mem_map.mpr ⟨p, h, e.symm⟩) h1
    · rw [valV_neg e]
      exact valV_own h2 ((List.mem_cons.mp h).resolve_left fun z => e (by rw [z]))
theorem putK_keys {kvs : KV2} {k : Key} {v : V} : ((putK kvs k v).map (·.1)) = if (kvs.any fun kv => decide (kv.1 = k)) = true then kvs.map (·.1) else kvs.map (·.1) ++ [k] := by
  unfold putK
  split
  · rw [List.map_map]
    refine List.map_congr_left fun p _ => ?_
    show (if p.1 = k then (p.1, v) else p).1 = p.1
    split <;> rfl
  · rw [List.map_append]; rfl
theorem putK_nodup {kvs : KV2} {k : Key} {v : V} (h : (kvs.map (·.1)).Nodup) : ((putK kvs k v).map (·.1)).Nodup := by
  rw [putK_keys]
  split
  · exact h
  · next q =>
    refine List.nodup_append.mpr ⟨h, List.nodup_cons.mpr ⟨(fun z => nomatch z), List.nodup_nil⟩, fun a ha c hc => ?_⟩
    rw [List.mem_singleton.mp hc]
    rintro rfl
    obtain ⟨p, hp, rfl⟩ := List.mem_map.mp ha
    exact q (List.any_eq_true.mpr ⟨p, hp, decide_eq_true rfl⟩)
theorem putK_mem {kvs : KV2} {k : Key} {v : V} {P : Key → Prop} (h : ∀ p ∈ kvs, P p.1) (hk : P k) : ∀ p ∈ putK kvs k v, P p.1 := by
  intro p hp
  have h1 : p.1 ∈ (putK kvs k v).map (·.1) := List.mem_map.mpr ⟨p, hp, rfl⟩
  rw [putK_keys] at h1
  split at h1
  · obtain ⟨q, hq, e⟩ := List.mem_map.mp h1
    have := h q hq
    rw [e] at this
    exact this
  · rcases List.mem_append.mp h1 with h1 | h1
    · obtain ⟨q, hq, e⟩ := List.mem_map.mp h1
      have := h q hq
      rw [e] at this
      exact this
    · rw [List.mem_singleton.mp h1]; exact hk
/-- keys are nodes, each once -/
structure NodeKeys (n : Nat) (kvs : KV2) : Prop where
  rng : ∀ p ∈ kvs, ∃ v : Nat, v < n ∧ p.1 = Sum.inl (v : Int)
  nd : (kvs.map (·.1)).Nodup
theorem NodeKeys.len {n : Nat} {kvs : KV2} (h : NodeKeys n kvs) : kvs.length ≤ n := by
  have q := nodup_len (m := (List.range n).map fun v : Nat => (Sum.inl (v : Int) : Key)) h.nd fun k hk => by
    obtain ⟨p, hp, rfl⟩ := List.mem_map.mp hk
    obtain ⟨v, hv, e⟩ := h.rng p hp
    exact List.mem_map.mpr ⟨v, List.mem_range.mpr hv, e.symm⟩
  rwa [List.length_map, List.length_map, List.length_range] at q
theorem NodeKeys.put {n : Nat} {kvs : KV2} (h : NodeKeys n kvs) {t : Nat} (ht : t < n) (v : V) : NodeKeys n (putK kvs (.inl (t : Int)) v) :=
  ⟨putK_mem (P := fun k => ∃ v : Nat, v < n ∧ k = Sum.inl (v : Int)) h.rng ⟨t, ht, rfl⟩, putK_nodup h.nd⟩
/-- the greatest weights of ways of k edges -/
structure RowD (G : Gr) (k : Nat) (kvs : KV2) : Prop where
  nk : NodeKeys G.length kvs
  snd : ∀ (v : Nat) x, valV kvs (.inl (v : Int)) = some x → ∃ y, x = .int y ∧ Way G k 0 v y
  max : ∀ v z, Way G k 0 v z → ∃ y, valV kvs (.inl (v : Int)) = some (.int y) ∧ z ≤ y
theorem RowD.zero {G : Gr} (h0 : 0 < G.length) : RowD G 0 [(.inl 0, .int 0)] := by
  refine ⟨⟨fun p hp => ⟨0, h0, by rw [List.mem_singleton.mp hp]; rfl⟩, List.nodup_cons.mpr ⟨(fun z => nomatch z), List.nodup_nil⟩⟩, fun v x hx => ?_, fun v z hz => ?_⟩
  · by_cases e : v = 0
    · subst e
      have hx2 : some (V.int 0) = some x := hx
      cases hx2
      exact ⟨0, rfl, .nil 0⟩
    · rw [valV_neg (by intro z; injection z with z; omega), valV_nil] at hx
      cases hx
  · cases hz with
    | nil => exact ⟨0, valV_pos rfl, Int.le_refl _⟩
/-- a row that is being made -/
structure RowI (G : Gr) (k : Nat) (pv : KV2) (j q : Nat) (kvs : KV2) : Prop where
  nk : NodeKeys G.length kvs
  snd : ∀ (v : Nat) x, valV kvs (.inl (v : Int)) = some x → ∃ y, x = .int y ∧ Way G (k + 1) 0 v y
  max : ∀ (j' q' : Nat) (u : Nat) (y l : Int) (t : Nat), pv[j']? = some (.inl (u : Int), .int y) → (G.at u)[q']? = some (l, t) → (j' < j ∨ j' = j ∧ q' < q) → ∃ y', valV kvs (.inl (t : Int)) = some (.int y') ∧ y + l ≤ y'
theorem RowI.zero {G : Gr} {k : Nat} {pv : KV2} : RowI G k pv 0 0 [] :=
  ⟨⟨fun p hp => (nomatch hp), List.nodup_nil⟩, fun v x hx => (nomatch hx), fun j' q' u y l t _ _ h => absurd h (by omega)⟩
theorem RowI.next {G : Gr} {k : Nat} {pv kvs : KV2} {j q : Nat} {u : Nat} {y : V} (h : RowI G k pv j q kvs) (hj : pv[j]? = some (.inl (u : Int), y)) (hq : (G.at u).length ≤ q) : RowI G k pv (j + 1) 0 kvs :=
  ⟨h.nk, h.snd, fun j' q' u' y' l t h1 h2 h3 => h.max j' q' u' y' l t h1 h2 (by
    rcases h3 with h3 | ⟨h3, h4⟩
    · by_cases e : j' = j
      · subst e
        rw [hj] at h1
        injection h1 with h1
        injection h1 with h1 h1'
        injection h1 with h1
        have : u = u' := by omega
        subst this
        have := (List.getElem?_eq_some_iff.mp h2).1
        exact .inr ⟨rfl, by omega⟩
      · exact .inl (by omega)
    · omega)⟩
theorem RowI.done {G : Gr} {k : Nat} {pv kvs : KV2} (hp : RowD G k pv) (h : RowI G k pv pv.length 0 kvs) : RowD G (k + 1) kvs := by
  refine ⟨h.nk, h.snd, fun v z hz => ?_⟩
  cases hz with
  | @snoc _ _ u x l _ hw he =>
    obtain ⟨y, hy, hxy⟩ := hp.max u x hw
    obtain ⟨j', hj'⟩ := valV_mem hy
    obtain ⟨q', hq', e⟩ := List.mem_iff_getElem.mp he
    obtain ⟨y', h1, h2⟩ := h.max j' q' u y l v hj' (List.getElem?_eq_some_iff.mpr ⟨hq', e⟩) (.inl (List.getElem?_eq_some_iff.mp hj').1)
    exact ⟨y', h1, by omega⟩
/-- an edge is gone through -/
theorem RowI.edge {G : Gr} (hG : G.Ok) {k : Nat} {pv kvs : KV2} {j q : Nat} {u : Nat} {y l : Int} {t : Nat} (hp : RowD G k pv) (h : RowI G k pv j q kvs) (hj : pv[j]? = some (.inl (u : Int), .int y)) (hq : (G.at u)[q]? = some (l, t)) {s : Int}
    (hs : s = match valV kvs (.inl (t : Int)) with | some (.int z) => if y + l > z then y + l else z | _ => y + l) : RowI G k pv j (q + 1) (putK kvs (.inl (t : Int)) (.int s)) := by
  have hyw : Way G k 0 u y := by
    have h1 := valV_own hp.nk.nd (List.mem_of_getElem? hj)
    obtain ⟨y2, e, hw⟩ := hp.snd u _ h1
    cases e
    exact hw
  have he : (l, t) ∈ G.at u := List.mem_of_getElem? hq
  have ht : t < G.length := hG.to he
  have hle : y + l ≤ s := by
    rw [hs]
    split
    · split
      · exact Int.le_refl _
      · next z => exact Int.not_lt.mp z
    · exact Int.le_refl _
  have hold : ∀ z, valV kvs (.inl (t : Int)) = some (.int z) → z ≤ s := fun z hz => by
    rw [hz] at hs
    rw [hs]
    show z ≤ if y + l > z then y + l else z
    split
    · next z => exact Int.le_of_lt z
    · exact Int.le_refl _
  refine ⟨h.nk.put ht _, fun v x hx => ?_, fun j' q' u' y' l' t' h1 h2 h3 => ?_⟩
  · rw [valV_put] at hx
    by_cases e : (Sum.inl (v : Int) : Key) = .inl (t : Int)
    · rw [if_pos e] at hx
      injection e with e
      have e : v = t := by omega
      subst e
      cases hx
      refine ⟨s, rfl, ?_⟩
      cases hv : valV kvs (.inl (v : Int)) with
      | none => rw [hv] at hs; rw [hs]; exact hyw.snoc he
      | some x0 =>
        obtain ⟨y0, e0, hw0⟩ := h.snd v x0 hv
        subst e0
        rw [hv] at hs
        rw [hs]
        show Way G (k + 1) 0 v (if y + l > y0 then y + l else y0)
        split
        · exact hyw.snoc he
        · exact hw0
    · rw [if_neg e] at hx
      exact h.snd v x hx
  · have old : (j' < j ∨ j' = j ∧ q' < q) → ∃ y2, valV (putK kvs (.inl (t : Int)) (.int s)) (.inl (t' : Int)) = some (.int y2) ∧ y' + l' ≤ y2 := fun h3 => by
      obtain ⟨y2, h4, h5⟩ := h.max j' q' u' y' l' t' h1 h2 h3
      rw [valV_put]
      by_cases e : (Sum.inl (t' : Int) : Key) = .inl (t : Int)
      · rw [if_pos e]
        rw [e] at h4
        exact ⟨s, rfl, Int.le_trans h5 (hold _ h4)⟩
      · rw [if_neg e]
        exact ⟨y2, h4, h5⟩
    rcases h3 with h3 | ⟨h3, h4⟩
    · exact old (.inl h3)
    · by_cases e : q' = q
      · subst h3 e
        rw [hj] at h1
        injection h1 with h1
        injection h1 with h1 h1'
        injection h1 with h1
        injection h1' with h1'
        have : u = u' := by omega
        subst this
        rw [hq] at h2
        cases h2
        subst h1'
        exact ⟨s, by rw [valV_put, if_pos rfl], hle⟩
      · exact old (.inr ⟨h3, by omega⟩)
section
variable {P : Program} {w : World} {K : PySem.W.Frag} {mg : Str → Option Value} {base : Heap}
theorem forK {g : TG} {tb : TS} {D : Ends} {σ : L2.St} {H : Hp} {d : Addr} {o : Obj} {kvs : KV2} (Pv : Nat → L2.St → Hp → Prop) (h0 : Pv 0 σ H) (hl : ∀ i σ' H', i ≤ kvs.length → Pv i σ' H' → H' d = some (.frz o (.dK kvs)))
    (hs : ∀ (i : Nat) (k : Key) (v : V) σ' H', kvs[i]? = some (k, v) → Pv i σ' H' → g (kV k) σ' H' fun σ2 H2 => tb { D with nx := Pv (i + 1), ct := Pv (i + 1), bk := D.nx } σ2 H2) (hd : ∀ σ' H', Pv kvs.length σ' H' → D.nx σ' H') : ForB (Itk d o kvs) g tb D σ H := by
  refine for_it walk_keys Pv h0 hl (fun i x σ' H' H'' hi p y => ?_) hd
  obtain ⟨rfl, k, v, hk, rfl⟩ := y
  exact hs i k v σ' _ hk p
theorem l_itK {td : TE} {σ : L2.St} {H : Hp} {R : It → Hp → Prop} (q : td σ H fun x H1 => ∃ d o, x = .ref d ∧ ((∃ kvs, H1 d = some (.frz o (.dK kvs)) ∧ R (Itk d o kvs) H1) ∨ ∃ kvs, H1 d = some (.frz o (.dT kvs)) ∧ R (Itkt d o kvs) H1)) : iKeys td σ H R := q
theorem l_pair1 {tk tv : TE} {σ : L2.St} {H : Hp} {Q : List (V × V) → Hp → Prop} (q : tk σ H fun x H1 => tv σ H1 fun y H2 => Q [(x, y)] H2) : tPairs [(tk, tv)] σ H Q := q
theorem l_dget {td ty : TE} {σ : L2.St} {H : Hp} {Q : VK} (q : td σ H fun x H1 => ty σ H1 fun y H2 => ∃ a v, x = .ref a ∧ DGet H2 a y (some v) ∧ Q v H2) : tDGet td ty σ H Q := q
theorem l_dget2 {td ty tx : TE} {σ : L2.St} {H : Hp} {Q : VK} (q : td σ H fun x H1 => ∃ a, x = .ref a ∧ IsD H1 a ∧ ty σ H1 fun y H2 => tx σ H2 fun z H3 => ∃ o, DGet H3 a y o ∧ Q (o.getD z) H3) : tDGet2 td ty tx σ H Q := q
theorem l_dput {td ty tv : TE} {σ : L2.St} {H : Hp} {D : Ends} (q : tv σ H fun v H1 => td σ H1 fun x H2 => ty σ H2 fun y H3 => ∃ a H4, x = .ref a ∧ DPut H3 a y v H4 ∧ D.nx σ H4) : sDPut td ty tv D σ H := q
theorem l_din {td ty : TE} {σ : L2.St} {H : Hp} {Q : VK} (q : ty σ H fun y H1 => td σ H1 fun x H2 => ∃ a o, x = .ref a ∧ DGet H2 a y o ∧ Q (.bl o.isSome) H2) : tDIn ty td σ H Q := q
theorem dget_l {H : Hp} {a : Addr} {kvs : KV2} {v : Nat} (h : Rd H a (.dK kvs)) : DGet H a (.int (v : Nat)) (valV kvs (.inl (v : Int))) := .inl ⟨kvs, .inl v, h, rfl, rfl⟩
/-- lists and tuples are kept -/
def LT (K : PySem.W.Frag) (H H' : Hp) : Prop := (∀ a xs, H a = some (.lst xs) → H' a = some (.lst xs)) ∧ TupX K H H'
theorem LT.same {H H' : Hp} (e : Same H H') : LT K H H' := ⟨fun _ _ h => e _ _ h, TupX.same e⟩
theorem LT.trans {H H1 H2 : Hp} (a : LT K H H1) (b : LT K H1 H2) : LT K H H2 := ⟨fun x xs h => b.1 x xs (a.1 x xs h), a.2.trans b.2⟩
theorem LT.upd {H : Hp} {d : Addr} {kvs : KV2} {o : HO} (h : H d = some (.dK kvs)) : LT K H (upd H d o) :=
  ⟨fun a xs q => by rw [upd_ne (ne_of q h (fun z => nomatch z))]; exact q, TupX.up (nt_dK h)⟩
theorem LT.but {H H' : Hp} {d : Addr} {kvs : KV2} (h : H d = some (.dK kvs)) (e : SameBut d H H') : LT K H H' := by
  refine ⟨fun a xs q => e _ _ (ne_of q h (fun z => nomatch z)) q, fun a xs q => ?_⟩
  rcases q with (q | ⟨o, q⟩) | q
  · exact .inl (.inl (e _ _ (ne_of q h (fun z => nomatch z)) q))
  · exact .inl (.inr ⟨o, e _ _ (ne_of q h (fun z => nomatch z)) q⟩)
  · exact .inr q
theorem GraphAt.lt {H H' : Hp} {g : Addr} {G : Gr} (e : LT K H H') (h : GraphAt K H g G) : GraphAt K H' g G := by
  obtain ⟨gs, h1, h2⟩ := h
  refine ⟨gs, e.1 _ _ h1, Paired.mapP h2 fun _ _ z => ?_⟩
  obtain ⟨a, us, rfl, q1, q2⟩ := z
  exact ⟨a, us, rfl, e.1 _ _ q1, q2.mono e.2⟩
theorem atI_end {α : Type} {x : α} {xs : List α} {n : Nat} (h : xs[n]? = some x) (hl : xs.length = n + 1) : atI xs (-1) = some x := by
  have e : xs = xs.take n ++ [x] := by rw [← take_get h, ← hl, List.take_length]
  rw [e]
  exact atI_last _ x
def RowsAt (H : Hp) (G : Gr) (l : Addr) (m : Nat) : Prop := ∃ rs, H l = some (.lst rs) ∧ rs.length = m ∧ ∀ i, i < m → ∃ d kvs, rs[i]? = some (.ref d) ∧ H d = some (.dK kvs) ∧ RowD G i kvs
def spWalked (K : PySem.W.Frag) : Sp := fun vs H Q _ => ∃ (g nl : Addr) (G : Gr) (ns : List Nat), vs = [.ref g, .ref nl] ∧ GraphAt K H g G ∧ G.Ok ∧ 0 < G.length ∧ G.length ≤ 1000 ∧ H nl = some (.lst (vNats ns)) ∧ ns[0]? = some 0 ∧ ns.length ≤ 1000 ∧
  ∀ l H', Same H H' → H l = none → RowsAt H' G l (ns.length + 1) → Q (.ref l) H'
theorem sc_walked : FnScope ["graph", "nodes", "rows", "turn", "row", "node", "loss", "to"] ["graph", "nodes"] (defScope s_walked) := ⟨rfl, rfl, rfl, by decide +kernel, rfl, by decide +kernel, by decide +kernel⟩
theorem ok_walked (D : Hd K mg) : OkG P w K mg base "walked" ["graph", "nodes"] 1 (spWalked K) := by
  obtain ⟨fd, F⟩ := F_walked D
  refine ⟨g_walked D, F.kp, fd, F.ok sc_walked (fun vs H Q E h => ?_) (fun cdv A outer sS H vs Q E hr h => ?_), F.bindsN fun _ _ _ _ _ _ us hl => match us, hl with | [_, _], _ => rfl⟩
  · obtain ⟨g, nl, G, ns, rfl, _⟩ := h
    rfl
  obtain ⟨g, nl, G, ns, rfl, hg, hG, h0, hz, hnl, hn0, hnz, k⟩ := h
  refine ⟨_, (PSs.nox (pss_cons (ps_set (i := 2) sc_walked.nd rfl (Or.inl rfl) (pe_lst (pa_cons (pe_disp (pps_cons (pe_ix (ix_listK K) (pv 1) pe_int (fun _ _ => rfl)) pe_int pps_nil) (by rfl) (by rfl) (fun z => by cases z) (by decide)) pa_nil)))
      (pss_cons (ps_for PassesOwn.never rfl (pi_range1 (by rfl) (g_range D) (pa_cons (pe_callB (cl_lenK K) (by rfl) (g_len D) (by decide +kernel) (pa_cons (pv 1) pa_nil)) pa_nil)) (pg_name (i := 3) sc_walked.nd rfl (Or.inl rfl)) (pss_cons (ps_set (i := 4) sc_walked.nd rfl (Or.inl rfl) pe_dnewK)
      (pss_cons (ps_lock (ps_for PassesOwn.never rfl (pi_keys (pe_ix (ix_listK K) (pv 2) (pe_un un_neg pe_int) (fun _ _ => rfl))) (pg_name (i := 5) sc_walked.nd rfl (Or.inl rfl)) (pss_one (ps_for PassesOwn.never rfl (pi_listK K (pe_ix (ix_listK K) (pv 0) (pv 5) (fun _ _ => rfl))) (pg_tupK K (n := 2) rfl (pgs_cons (pg_name (i := 6) sc_walked.nd rfl (Or.inl rfl)) (pgs_cons (pg_name (i := 7) sc_walked.nd rfl (Or.inl rfl)) pgs_nil))) (pss_one (ps_dput (hu_of hr) (pv 4) (pv 7) (pe_callB (cl_max2 rfl) (by rfl) (g_max D) (by decide +kernel) (pa_cons (pe_dget2 (hu_of hr) (pv 4) (pv 7) (pe_op op_add (pe_dget (hu_of hr) (pe_ix (ix_listK K) (pv 2) (pe_un un_neg pe_int) (fun _ _ => rfl)) (pv 5) (fun _ _ => rfl)) (pv 6)) ⟨rfl, rfl, rfl, rfl⟩) (pa_cons (pe_op op_add (pe_dget (hu_of hr) (pe_ix (ix_listK K) (pv 2) (pe_un un_neg pe_int) (fun _ _ => rfl)) (pv 5) (fun _ _ => rfl)) (pv 6)) pa_nil))) rfl))))))
      (pss_one (ps_expr (pe_bmK K PySem.F.plainAttrs_list PySem.F.slot_list_append PySem.F.type_list_append mt_append (pv 2) (pa_cons (pv 4) pa_nil)))))))
      (pss_one (ps_ret (pv 2)))))), ?_⟩
  walk_at "ga"
  intro p hp
  refine l_pair1 ?_
  walk_at "ga"
  refine l_ixL (SqL.of (get_new hp hnl)) (atI_nat (vNats_get hn0)) ?_
  walk_at "ga"
  refine ⟨upd_same, [(.inl 0, .int 0)], rfl, by decide, ?_⟩
  have e0 : Same H (upd (upd H p (.dK [])) p (.dK (mergeK [] [(.inl 0, .int 0)]))) := same_mut (same_new hp) hp
  have hp0 : upd (upd H p (.dK [])) p (.dK (mergeK [] [(.inl 0, .int 0)])) p = some (.dK [(.inl 0, .int 0)]) := upd_same
  revert e0 hp0
  generalize upd (upd H p (.dK [])) p (.dK (mergeK [] [(.inl 0, .int 0)])) = H0
  intro e0 hp0
  walk_at "ga"
  refine l_mkL (by show 1 ≤ sizeLine; decide) fun l H1 e1 hl hm => ?_
  have e01 := e0.trans e1
  have hnl1 := e01 _ _ hnl
  have hl0 : H l = none := e0.free hl
  walk_at "ga"
  rw [vNats_len]
  refine forR (fun i σ' H' => ∃ z3 z4 z5 z6 z7, σ' = [some (.ref g), some (.ref nl), some (.ref l), z3, z4, z5, z6, z7] ∧ SameBut l H1 H' ∧ RowsAt H' G l (i + 1)) (by omega)
    ⟨_, _, _, _, _, rfl, SameBut.refl l H1, [.ref p], hm, rfl, fun i hi => ?_⟩ (fun i σ' H' hi h => ?_) (fun σ' H' h => ?_)
  · have : i = 0 := by omega
    subst this
    exact ⟨p, _, rfl, e1 _ _ hp0, RowD.zero h0⟩
  · obtain ⟨z3, z4, z5, z6, z7, rfl, e2, rs, hrs, hrl, hrows⟩ := h
    have e02 : Same H H' := e2.same e01 hl0
    obtain ⟨d, pv, hd1, hd2, hpv⟩ := hrows i (by omega)
    walk_at "ga"
    intro r hr
    have e3 : Same H' (upd H' r (.dK [])) := same_new hr
    have hr3 : upd H' r (.dK []) r = some (.dK []) := upd_same
    revert e3 hr3
    generalize upd H' r (.dK []) = H3
    intro e3 hr3
    walk_at "ga"
    have hd3 := e3 _ _ hd2
    have hrs3 := e3 _ _ hrs
    have nrd : d ≠ r := ne_of_none hd2 hr
    refine ⟨d, .dK pv, hd3, trivial, fun od => ?_⟩
    have lk : LT K H3 (upd H3 d (.frz od (.dK pv))) := LT.upd hd3
    have hdL : upd H3 d (.frz od (.dK pv)) d = some (.frz od (.dK pv)) := upd_same
    have hoL : ∀ b, b ≠ d → upd H3 d (.frz od (.dK pv)) b = H3 b := fun b hb => upd_ne hb
    revert lk hdL hoL
    generalize upd H3 d (.frz od (.dK pv)) = HL
    intro lk hdL hoL
    have hrL : HL r = some (.dK []) := by rw [hoL r nrd.symm]; exact hr3
    have lt0 : LT K H HL := (LT.same (e02.trans e3)).trans lk
    walk_at "ga"
    refine l_itK ?_
    walk_at "ga"
    refine l_ixL (SqL.of (lk.1 _ _ hrs3)) (atI_end hd1 hrl) ?_
    refine ⟨d, od, rfl, .inl ⟨pv, hdL, ?_⟩⟩
    refine forK (fun j σ' H' => ∃ z5 z6 z7, σ' = [some (.ref g), some (.ref nl), some (.ref l), some (.int (i : Nat)), some (.ref r), z5, z6, z7] ∧ SameBut r HL H' ∧ ∃ nw, H' r = some (.dK nw) ∧ RowI G i pv j 0 nw)
      ⟨_, _, _, rfl, SameBut.refl r HL, [], hrL, RowI.zero⟩ (fun j σ' H' _ h => ?_) (fun j key v σ' H4 hj h => ?_) (fun σ' H4 h => ?_)
    · obtain ⟨_, _, _, _, e4, _⟩ := h
      exact e4 _ _ nrd hdL
    · obtain ⟨y5, y6, y7, rfl, e4, nw, hnw, hI⟩ := h
      obtain ⟨u, hu, eu⟩ := hpv.nk.rng _ (List.mem_of_getElem? hj)
      have eu : key = .inl (u : Int) := eu
      subst eu
      have hval := valV_own hpv.nk.nd (List.mem_of_getElem? hj)
      obtain ⟨y, rfl, _⟩ := hpv.snd u v hval
      have hval : valV pv (.inl (u : Int)) = some (.int y) := hval
      have lt4 : LT K HL H4 := LT.but hrL e4
      obtain ⟨gs, a, us, p1, p2, p3, p4⟩ := (hg.lt (lt0.trans lt4)).row hu
      have hul : us.length = (G.at u).length := by rw [p4.length, List.length_map]
      show gName 5 (V.int (u : Nat)) _ _ _
      walk_at "ga"
      refine l_ixL (SqL.of p1) (atI_nat p2) ?_
      have hrs4 := lt4.1 _ _ (lk.1 _ _ hrs3)
      have hd4 := e4 _ _ nrd hdL
      refine forL (SqL.of p3) (fun q σ' H' => ∃ z6 z7, σ' = [some (.ref g), some (.ref nl), some (.ref l), some (.int (i : Nat)), some (.ref r), some (.int (u : Nat)), z6, z7] ∧ SameBut r H4 H' ∧ ∃ nw, H' r = some (.dK nw) ∧ RowI G i pv j q nw)
        ⟨_, _, rfl, SameBut.refl r H4, nw, hnw, hI⟩ (fun q σ' H' _ h => ?_) (fun q x σ' H5 hx h => ?_) (fun σ' H5 h => ?_)
      · obtain ⟨_, _, _, e5, _⟩ := h
        exact SqL.of ((LT.but (K := K) hnw e5).1 _ _ p3)
      · obtain ⟨y6, y7, rfl, e5, nw5, hnw5, hI5⟩ := h
        have lt5 : LT K H4 H5 := LT.but hnw e5
        obtain ⟨de, hd1', hx2⟩ := p4.at hx
        rw [List.getElem?_map] at hd1'
        obtain ⟨e, he, rfl⟩ := Option.map_eq_some_iff.mp hd1'
        obtain ⟨el, et⟩ := e
        obtain ⟨c, u1, u2, rfl, hc, q1, q2⟩ := (hx2.mono lt5.2).t2
        cases q1.int_inv
        cases q2.int_inv
        have hrs5 := lt5.1 _ _ hrs4
        have hd5 := e5 _ _ nrd hd4
        have hln5 := hI5.nk.len
        walk_at "ga"
        refine l_dput ?_
        walk_at "ga"
        refine l_dget2 ?_
        walk_at "ga"
        refine ⟨r, rfl, .inl ⟨nw5, .inl hnw5⟩, ?_⟩
        have last : ∀ {R : VK}, R (.int y) H5 → tDGet (tOp (rIxL K) (tVar 2) (tUn (rU fun i => .int (-i)) (tC (.int 1)))) (tVar 5) ([some (.ref g), some (.ref nl), some (.ref l), some (.int (i : Nat)), some (.ref r), some (.int (u : Nat)), some (.int el), some (.int (et : Nat))] : L2.St) H5 R := by
          intro R q
          refine l_dget ?_
          walk_at "ga"
          refine l_ixL (SqL.of hrs5) (atI_end hd1 hrl) ?_
          walk_at "ga"
          refine ⟨d, .int y, rfl, ?_, q⟩
          rw [← hval]
          exact dget_l (.inr ⟨od, hd5⟩)
        walk_at "ga"
        refine last ?_
        walk_at "ga"
        refine ⟨_, dget_l (.inl hnw5), ?_⟩
        walk_at "ga"
        refine last ?_
        have fin : ∀ s : Int, (s = match valV nw5 (.inl (et : Int)) with | some (.int z) => if y + el > z then y + el else z | _ => y + el) →
            (∃ z6 z7, ([some (.ref g), some (.ref nl), some (.ref l), some (.int (i : Nat)), some (.ref r), some (.int (u : Nat)), some (.int el), some (.int (et : Nat))] : L2.St) = [some (.ref g), some (.ref nl), some (.ref l), some (.int (i : Nat)), some (.ref r), some (.int (u : Nat)), z6, z7] ∧ SameBut r H4 (upd H5 r (.dK (putK nw5 (.inl (et : Int)) (.int s)))) ∧ ∃ nw, upd H5 r (.dK (putK nw5 (.inl (et : Int)) (.int s))) r = some (.dK nw) ∧ RowI G i pv j (q + 1) nw) :=
          fun s hs => ⟨_, _, rfl, e5.trans SameBut.upd, _, upd_same, hI5.edge hG hpv hj he hs⟩
        cases hv : valV nw5 (.inl (et : Int)) with
        | none =>
          rw [hv] at fin
          walk_at "ga"
          refine l_max2 (i := y + el) (j := y + el) ?_
          walk_at "ga"
          exact ⟨r, _, rfl, DPut.k (k := .inl (et : Int)) hnw5 (szl (by omega)), fin _ (by show (if y + el > y + el then y + el else y + el) = _; rw [ite_self])⟩
        | some x0 =>
          obtain ⟨w0, rfl, _⟩ := hI5.snd et x0 hv
          rw [hv] at fin
          walk_at "ga"
          refine l_max2 (i := w0) (j := y + el) ?_
          walk_at "ga"
          exact ⟨r, _, rfl, DPut.k (k := .inl (et : Int)) hnw5 (szl (by omega)), fin _ rfl⟩
      · obtain ⟨y6, y7, rfl, e5, nw5, hnw5, hI5⟩ := h
        exact ⟨_, _, _, rfl, e4.trans e5, nw5, hnw5, hI5.next hj (by rw [hul]; exact Nat.le_refl _)⟩
    · obtain ⟨y5, y6, y7, rfl, e4, nw, hnw, hI⟩ := h
      refine ⟨e4 _ _ nrd hdL, ?_⟩
      have e5 : SameBut r H3 (upd H4 d (.dK pv)) := fun b o hb q => by
        by_cases e : b = d
        · subst e
          rw [hd3] at q
          rw [upd_same]
          exact q
        · rw [upd_ne e]
          exact e4 _ _ hb (by rw [hoL b e]; exact q)
      have hnw5 : upd H4 d (.dK pv) r = some (.dK nw) := by rw [upd_ne nrd.symm]; exact hnw
      revert e5 hnw5
      generalize upd H4 d (.dK pv) = H5
      intro e5 hnw5
      have e35 : Same H' H5 := e5.same e3 hr
      have hrs5 := e35 _ _ hrs
      walk_at "ga"
      refine ⟨tyv_list (SqL.of hrs5), ?_⟩
      walk_at "ga"
      refine l_appN hrs5 (szl (by omega)) fun H6 e6 hm6 => ?_
      refine ⟨_, _, _, _, _, rfl, (e2.trans (SameBut.of_same e35)).trans e6, _, hm6, ?_, fun i2 hi2 => ?_⟩
      · rw [List.length_append, hrl]; rfl
      · by_cases h2 : i2 < i + 1
        · obtain ⟨d2, kv2, q1, q2, q3⟩ := hrows i2 h2
          exact ⟨d2, kv2, by rw [List.getElem?_append_left (by omega)]; exact q1, e6 _ _ (ne_of q2 hrs (fun z => nomatch z)) (e35 _ _ q2), q3⟩
        · have : i2 = i + 1 := by omega
          subst this
          refine ⟨r, nw, ?_, e6 _ _ (ne_of hnw5 hrs5 (fun z => nomatch z)) hnw5, hI.done hpv⟩
          rw [List.getElem?_append_right (by omega), hrl, Nat.sub_self]
          rfl
  · obtain ⟨z3, z4, z5, z6, z7, rfl, e2, hR⟩ := h
    walk_at "ga"
    exact k l H' (e2.same e01 hl0) hl0 hR
end
/-! ### the greatest mean -/
def MaxW (G : Gr) (k v : Nat) (x : Int) : Prop := Way G k 0 v x ∧ ∀ z, Way G k 0 v z → z ≤ x
theorem RowD.mw {G : Gr} {k : Nat} {kvs : KV2} (h : RowD G k kvs) {v : Nat} {y : Int} (hv : valV kvs (.inl (v : Int)) = some (.int y)) : MaxW G k v y := by
  obtain ⟨y2, e, hw⟩ := h.snd v _ hv
  cases e
  refine ⟨hw, fun z hz => ?_⟩
  obtain ⟨y3, h3, h4⟩ := h.max v z hz
  rw [hv] at h3
  cases h3
  exact h4
theorem RowD.of_mw {G : Gr} {k : Nat} {kvs : KV2} (h : RowD G k kvs) {v : Nat} {y : Int} (hv : MaxW G k v y) : valV kvs (.inl (v : Int)) = some (.int y) := by
  obtain ⟨y3, h3, h4⟩ := h.max v y hv.1
  obtain ⟨y2, e, hw⟩ := h.snd v _ h3
  cases e
  have := hv.2 _ hw
  have e2 : y3 = y := by omega
  rw [h3, e2]
theorem frac1 {A s r N q p : Int} (h1 : A * s ≤ r * N) (h2 : r * q ≤ p * s) (hs : 0 < s) (hN : 0 ≤ N) (hq : 0 ≤ q) : A * q ≤ p * N := by
  have e1 := Int.mul_le_mul_of_nonneg_right h1 hq
  have e2 := Int.mul_le_mul_of_nonneg_right h2 hN
  have e3 : A * q * s ≤ p * N * s := by
    have a1 : A * q * s = A * s * q := by rw [Int.mul_assoc, Int.mul_comm q s, Int.mul_assoc]
    have a2 : p * N * s = p * s * N := by rw [Int.mul_assoc, Int.mul_comm N s, Int.mul_assoc]
    have a3 : r * N * q = r * q * N := by rw [Int.mul_assoc, Int.mul_comm N q, Int.mul_assoc]
    rw [a1, a2]
    rw [a3] at e1
    exact Int.le_trans e1 e2
  exact Int.le_of_mul_le_mul_right e3 hs
/-- the least mean of the first m many -/
def LeastS (G : Gr) (n u : Nat) (x : Int) (m : Nat) (p q : Int) : Prop := (∃ k y, k < m ∧ MaxW G k u y ∧ p = x - y ∧ q = (n : Int) - (k : Nat)) ∧ ∀ k y, k < m → MaxW G k u y → p * ((n : Int) - (k : Nat)) ≤ (x - y) * q
def BestS (G : Gr) (n : Nat) (pv : KV2) (j : Nat) (p q : Int) : Prop :=
  (∀ (j' u : Nat) (x : Int), j' < j → pv[j']? = some (.inl (u : Int), .int x) → ∃ k y, k < n ∧ MaxW G k u y ∧ (x - y) * q ≤ p * ((n : Int) - (k : Nat))) ∧
  ∃ (j' u : Nat) (x : Int), j' < j ∧ pv[j']? = some (.inl (u : Int), .int x) ∧ ∀ k y, k < n → MaxW G k u y → p * ((n : Int) - (k : Nat)) ≤ (x - y) * q
theorem LeastS.skip {G : Gr} {n u : Nat} {x : Int} {m : Nat} {p q : Int} (h : LeastS G n u x m p q) (hm : ∀ y, ¬ MaxW G m u y) : LeastS G n u x (m + 1) p q := by
  obtain ⟨⟨k, y, h1, h2⟩, h3⟩ := h
  refine ⟨⟨k, y, by omega, h2⟩, fun k y hk hy => ?_⟩
  by_cases e : k = m
  · subst e; exact absurd hy (hm y)
  · exact h3 k y (by omega) hy
theorem MaxW.uniq {G : Gr} {k v : Nat} {x y : Int} (h1 : MaxW G k v x) (h2 : MaxW G k v y) : x = y := by
  have a := h1.2 y h2.1
  have b := h2.2 x h1.1
  omega
theorem LeastS.keep {G : Gr} {n u : Nat} {x y : Int} {m : Nat} {p q : Int} (h : LeastS G n u x m p q) (hy : MaxW G m u y) (hc : p * ((n : Int) - (m : Nat)) ≤ (x - y) * q) : LeastS G n u x (m + 1) p q := by
  obtain ⟨⟨k, y2, h1, h2⟩, h3⟩ := h
  refine ⟨⟨k, y2, by omega, h2⟩, fun k y3 hk hy3 => ?_⟩
  by_cases e : k = m
  · subst e
    rw [hy3.uniq hy]
    exact hc
  · exact h3 k y3 (by omega) hy3
theorem LeastS.new {G : Gr} {n u : Nat} {x y : Int} {m : Nat} {p q : Int} (h : LeastS G n u x m p q) (hq : 0 < q) (hm : m < n) (hy : MaxW G m u y) (hc : (x - y) * q < p * ((n : Int) - (m : Nat))) :
    LeastS G n u x (m + 1) (x - y) ((n : Int) - (m : Nat)) := by
  refine ⟨⟨m, y, by omega, hy, rfl, rfl⟩, fun k y3 hk hy3 => ?_⟩
  by_cases e : k = m
  · subst e
    rw [hy3.uniq hy]
    exact Int.le_refl _
  · have h4 := h.2 k y3 (by omega) hy3
    have h5 := frac1 (A := x - y) (s := q) (r := p) (N := (n : Int) - (m : Nat)) (q := (n : Int) - (k : Nat)) (p := x - y3) (by omega) h4 hq (by omega) (by omega)
    exact h5
theorem LeastS.first {G : Gr} {n u : Nat} {x y : Int} {m : Nat} (h : ∀ k y, k < m → ¬ MaxW G k u y) (hy : MaxW G m u y) : LeastS G n u x (m + 1) (x - y) ((n : Int) - (m : Nat)) := by
  refine ⟨⟨m, y, by omega, hy, rfl, rfl⟩, fun k y3 hk hy3 => ?_⟩
  by_cases e : k = m
  · subst e
    rw [hy3.uniq hy]
    exact Int.le_refl _
  · exact absurd hy3 (h k y3 (by omega))
theorem BestS.first {G : Gr} {n : Nat} {pv : KV2} {u : Nat} {x p q : Int} (hj : pv[0]? = some (.inl (u : Int), .int x)) (h : LeastS G n u x n p q) : BestS G n pv 1 p q := by
  refine ⟨fun j' u' x' h1 h2 => ?_, 0, u, x, by omega, hj, h.2⟩
  have e : j' = 0 := by omega
  subst e
  rw [hj] at h2
  injection h2 with h2
  injection h2 with h2 h2'
  injection h2 with h2
  injection h2' with h2'
  have : u = u' := by omega
  subst this h2'
  obtain ⟨⟨k, y, g1, g2, rfl, rfl⟩, _⟩ := h
  exact ⟨k, y, g1, g2, Int.le_refl _⟩
theorem BestS.keep {G : Gr} {n : Nat} {pv : KV2} {j u : Nat} {x p q r s : Int} (hb : BestS G n pv j r s) (hj : pv[j]? = some (.inl (u : Int), .int x)) (h : LeastS G n u x n p q) (hc : p * s ≤ r * q) : BestS G n pv (j + 1) r s := by
  obtain ⟨b1, j2, u2, x2, b2, b3⟩ := hb
  refine ⟨fun j' u' x' h1 h2 => ?_, j2, u2, x2, by omega, b3⟩
  by_cases e : j' = j
  · subst e
    rw [hj] at h2
    injection h2 with h2
    injection h2 with h2 h2'
    injection h2 with h2
    injection h2' with h2'
    have : u = u' := by omega
    subst this h2'
    obtain ⟨⟨k, y, g1, g2, rfl, rfl⟩, _⟩ := h
    exact ⟨k, y, g1, g2, hc⟩
  · exact b1 j' u' x' (by omega) h2
theorem BestS.new {G : Gr} {n : Nat} {pv : KV2} {j u : Nat} {x p q r s : Int} (hb : BestS G n pv j r s) (hs : 0 < s) (hq : 0 < q) (hj : pv[j]? = some (.inl (u : Int), .int x)) (h : LeastS G n u x n p q) (hc : r * q < p * s) : BestS G n pv (j + 1) p q := by
  obtain ⟨b1, _⟩ := hb
  refine ⟨fun j' u' x' h1 h2 => ?_, j, u, x, by omega, hj, h.2⟩
  by_cases e : j' = j
  · subst e
    rw [hj] at h2
    injection h2 with h2
    injection h2 with h2 h2'
    injection h2 with h2
    injection h2' with h2'
    have : u = u' := by omega
    subst this h2'
    obtain ⟨⟨k, y, g1, g2, rfl, rfl⟩, _⟩ := h
    exact ⟨k, y, g1, g2, Int.le_refl _⟩
  · obtain ⟨k, y, g1, g2, g3⟩ := b1 j' u' x' (by omega) h2
    exact ⟨k, y, g1, g2, frac1 g3 (by omega) hs (by omega) (by omega)⟩
/-- the last condition, of a fraction in lowest terms -/
theorem low_frac {p q : Int} (hq : 0 < q) : ∃ g : Int, 0 < g ∧ g = (Int.gcd p q : Nat) ∧ p = (p / g) * g ∧ q = (q / g) * g ∧ 0 < q / g ∧ Int.gcd (p / g) (q / g) = 1 := by
  have hg : 0 < Int.gcd p q := by
    have : Int.gcd p q ≠ 0 := fun z => by have := (Int.gcd_eq_zero_iff.mp z).2; omega
    omega
  have d1 : (p / (Int.gcd p q : Nat)) * (Int.gcd p q : Nat) = p := Int.ediv_mul_cancel (Int.gcd_dvd_left p q)
  have d2 : (q / (Int.gcd p q : Nat)) * (Int.gcd p q : Nat) = q := Int.ediv_mul_cancel (Int.gcd_dvd_right p q)
  refine ⟨(Int.gcd p q : Nat), by omega, rfl, d1.symm, d2.symm, ?_, Int.gcd_ediv_gcd_ediv_gcd hg⟩
  refine Int.not_le.mp fun h => ?_
  have h2 := Int.mul_le_mul_of_nonneg_right h (c := (Int.gcd p q : Nat)) (by omega)
  rw [d2, Int.zero_mul] at h2
  omega
def MeanA (G : Gr) (n : Nat) (up down : Int) : Prop := ∀ v x, MaxW G n v x → ∃ k y, k < n ∧ MaxW G k v y ∧ (x - y) * down ≤ up * ((n : Int) - (k : Nat))
def MeanB (G : Gr) (n : Nat) (up down : Int) : Prop := ∃ v x, MaxW G n v x ∧ ∀ k y, k < n → MaxW G k v y → up * ((n : Int) - (k : Nat)) ≤ (x - y) * down
theorem mulr {A q g : Int} : A * (q * g) = A * q * g := (Int.mul_assoc ..).symm
theorem mulr2 {p g N : Int} : p * g * N = p * N * g := by rw [Int.mul_assoc, Int.mul_comm g N, Int.mul_assoc]
theorem BestS.mean {G : Gr} {pv : KV2} {n : Nat} {p q g : Int} (hp : RowD G n pv) (h : BestS G n pv pv.length p q) (hg : 0 < g) (ep : p = (p / g) * g) (eq : q = (q / g) * g) : MeanA G n (p / g) (q / g) ∧ MeanB G n (p / g) (q / g) := by
  obtain ⟨b1, j, u, x, b2, b3, b4⟩ := h
  constructor
  · intro v x hx
    obtain ⟨j', hj'⟩ := valV_mem (hp.of_mw hx)
    obtain ⟨k, y, h1, h2, h3⟩ := b1 j' v x (List.getElem?_eq_some_iff.mp hj').1 hj'
    refine ⟨k, y, h1, h2, ?_⟩
    rw [ep, eq, mulr, mulr2 (p := p / g) (g := g)] at h3
    exact Int.le_of_mul_le_mul_right h3 hg
  · refine ⟨u, x, hp.mw (valV_own hp.nk.nd (List.mem_of_getElem? b3)), fun k y h1 h2 => ?_⟩
    have h3 := b4 k y h1 h2
    rw [ep, eq, mulr, mulr2 (p := p / g) (g := g)] at h3
    exact Int.le_of_mul_le_mul_right h3 hg
section
variable {P : Program} {w : World} {K : PySem.W.Frag} {mg : Str → Option Value} {base : Heap}
def spWorst (K : PySem.W.Frag) : Sp := fun vs H Q _ => ∃ (g : Addr) (G : Gr), vs = [.ref g] ∧ GraphAt K H g G ∧ G.Ok ∧ 0 < G.length ∧ G.length ≤ 1000 ∧ (∀ v, v < G.length → ∃ k x, Way G k 0 v x) ∧
  (∀ v x, Way G G.length 0 v x → ∃ k y, k < G.length ∧ Way G k 0 v y) ∧ ((∀ v x, ¬ Way G G.length 0 v x) → ∀ H', Same H H' → Q .non H') ∧
  (∀ up down : Int, 0 < down → down < 1000000 → Int.gcd up down = 1 → MeanA G G.length up down → MeanB G G.length up down → ∀ r H', Same H H' → TD K H' r (.tuple [.int up, .int down]) → Q r H')
/-- the least so far, as it stands -/
def LstV (K : PySem.W.Frag) (H : Hp) (G : Gr) (n u : Nat) (x : Int) (m : Nat) (v : V) : Prop :=
  (v = .non ∧ ∀ k y, k < m → ¬ MaxW G k u y) ∨ ∃ a p q, v = .ref a ∧ TD K H v (.tuple [.int p, .int q]) ∧ 0 < q ∧ q < 1000000 ∧ LeastS G n u x m p q
def BstV (K : PySem.W.Frag) (H : Hp) (G : Gr) (n : Nat) (pv : KV2) (j : Nat) (v : V) : Prop :=
  (v = .non ∧ j = 0) ∨ ∃ a p q, v = .ref a ∧ TD K H v (.tuple [.int p, .int q]) ∧ 0 < q ∧ q < 1000000 ∧ BestS G n pv j p q
theorem LstV.same {H H' : Hp} {G : Gr} {n u m : Nat} {x : Int} {v : V} (e : Same H H') (h : LstV K H G n u x m v) : LstV K H' G n u x m v := by
  rcases h with h | ⟨a, p, q, h1, h2, h3⟩
  · exact .inl h
  · exact .inr ⟨a, p, q, h1, td_same e h2, h3⟩
theorem BstV.same {H H' : Hp} {G : Gr} {n j : Nat} {pv : KV2} {v : V} (e : Same H H') (h : BstV K H G n pv j v) : BstV K H' G n pv j v := by
  rcases h with h | ⟨a, p, q, h1, h2, h3⟩
  · exact .inl h
  · exact .inr ⟨a, p, q, h1, td_same e h2, h3⟩
theorem sc_worst_of : FnScope ["graph", "nodes", "rows", "best", "node", "least", "many", "found"] ["graph"] (defScope s_worst_of) := ⟨rfl, rfl, rfl, by decide +kernel, rfl, by decide +kernel, by decide +kernel⟩
theorem ok_worst_of (D : Hd K mg) : OkG P w K mg base "worst_of" ["graph"] 3 (spWorst K) := by
  have G_met_from := ok_met_from (P := P) (w := w) (base := base) D
  have G_walked := ok_walked (P := P) (w := w) (base := base) D
  have G_is_above := ok_is_above (P := P) (w := w) (base := base) D
  have G_lowest := ok_lowest (P := P) (w := w) (base := base) D
  obtain ⟨fd, F⟩ := F_worst_of D
  refine ⟨g_worst_of D, F.kp, fd, F.ok sc_worst_of (fun vs H Q E h => ?_) (fun cdv A outer sS H vs Q E hr h => ?_), F.bindsN fun _ _ _ _ _ _ us hl => match us, hl with | [_], _ => rfl⟩
  · obtain ⟨g, G, rfl, _⟩ := h
    rfl
  obtain ⟨g, G, rfl, hg, hG, h0, hz, hr', hpig, k0, k1⟩ := h
  have hml := metM_len hG h0 hr'
  refine ⟨_, (PSs.nox (pss_cons (ps_set (i := 1) sc_worst_of.nd rfl (Or.inl rfl) (pe_cl G_met_from hr (pa_cons (pv 0) (pa_cons pe_int pa_nil))))
      (pss_cons (ps_set (i := 2) sc_worst_of.nd rfl (Or.inl rfl) (pe_cl G_walked hr (pa_cons (pv 0) (pa_cons (pv 1) pa_nil))))
      (pss_cons (ps_set (i := 3) sc_worst_of.nd rfl (Or.inl rfl) pe_non)
      (pss_cons (ps_lock (ps_for PassesOwn.never rfl (pi_keys (pe_ix (ix_listK K) (pv 2) (pe_un un_neg pe_int) (fun _ _ => rfl))) (pg_name (i := 4) sc_worst_of.nd rfl (Or.inl rfl)) (pss_cons (ps_set (i := 5) sc_worst_of.nd rfl (Or.inl rfl) pe_non)
      (pss_cons (ps_for PassesOwn.never rfl (pi_range1 (by rfl) (g_range D) (pa_cons (pe_callB (cl_lenK K) (by rfl) (g_len D) (by decide +kernel) (pa_cons (pv 1) pa_nil)) pa_nil)) (pg_name (i := 6) sc_worst_of.nd rfl (Or.inl rfl)) (pss_one (ps_if (pt_cmp (pc_din (hu_of hr) (pv 4) (pe_ix (ix_listK K) (pv 2) (pv 6) (fun _ _ => rfl)))) (pss_cons (ps_set (i := 7) sc_worst_of.nd rfl (Or.inl rfl) (pe_tup (pa_cons (pe_op op_sub (pe_dget (hu_of hr) (pe_ix (ix_listK K) (pv 2) (pe_un un_neg pe_int) (fun _ _ => rfl)) (pv 4) (fun _ _ => rfl)) (pe_dget (hu_of hr) (pe_ix (ix_listK K) (pv 2) (pv 6) (fun _ _ => rfl)) (pv 4) (fun _ _ => rfl))) (pa_cons (pe_op op_sub (pe_callB (cl_lenK K) (by rfl) (g_len D) (by decide +kernel) (pa_cons (pv 1) pa_nil)) (pv 6)) pa_nil))))
      (pss_one (ps_if (PW.pt (pw_or (pt_cmpR op_is0 (pv 5) pe_non (nomark _)) (pw_or1 (pt_val (pe_cl G_is_above hr (pa_cons (pv 5) (pa_cons (pv 7) pa_nil))))))) (pss_one (ps_set (i := 5) sc_worst_of.nd rfl (Or.inl rfl) (pv 7))) pss_nil))) pss_nil)))
      (pss_one (ps_if (PW.pt (pw_or (pt_cmpR op_is0 (pv 3) pe_non (nomark _)) (pw_or1 (pt_val (pe_cl G_is_above hr (pa_cons (pv 5) (pa_cons (pv 3) pa_nil))))))) (pss_one (ps_set (i := 3) sc_worst_of.nd rfl (Or.inl rfl) (pv 5))) pss_nil))))))
      (pss_cons (ps_if (pt_cmpR op_is0 (pv 3) pe_non (nomark _)) (pss_one (ps_ret pe_non)) pss_nil)
      (pss_one (ps_ret (pe_cl G_lowest hr (pa_cons (pe_ix (ix_tupK K) (pv 3) pe_int (fun _ _ => rfl)) (pa_cons (pe_ix (ix_tupK K) (pv 3) pe_int (fun _ _ => rfl)) pa_nil))))))))))), ?_⟩
  walk_at "ga"
  refine ⟨g, G, rfl, hg, hG, h0, hz, fun nl H1 e1 hnl0 hnl => ?_⟩
  walk_at "ga"
  refine ⟨g, nl, G, metM G, rfl, hg.same e1, hG, h0, hz, hnl, metM_0 G, by omega, fun l H2 e2 hl0 hR => ?_⟩
  rw [hml] at hR
  have e02 := e1.trans e2
  have hnl2 := e2 _ _ hnl
  obtain ⟨rs, hrs, hrl, hrows⟩ := hR
  obtain ⟨d, pv, hd1, hd2, hpv⟩ := hrows G.length (by omega)
  walk_at "ga"
  refine ⟨d, .dK pv, hd2, trivial, fun od => ?_⟩
  have lk : LT K H2 (upd H2 d (.frz od (.dK pv))) := LT.upd hd2
  have hdL : upd H2 d (.frz od (.dK pv)) d = some (.frz od (.dK pv)) := upd_same
  have hoL : ∀ b, b ≠ d → upd H2 d (.frz od (.dK pv)) b = H2 b := fun b hb => upd_ne hb
  revert lk hdL hoL
  generalize upd H2 d (.frz od (.dK pv)) = HL
  intro lk hdL hoL
  have hrsL := lk.1 _ _ hrs
  have hnlL := lk.1 _ _ hnl2
  have hrow : ∀ m, m < G.length + 1 → ∃ d' kvs, rs[m]? = some (.ref d') ∧ Rd HL d' (.dK kvs) ∧ RowD G m kvs := fun m hm => by
    obtain ⟨d', kvs, q1, q2, q3⟩ := hrows m hm
    by_cases e : d' = d
    · subst e
      rw [hd2] at q2
      cases q2
      exact ⟨d', pv, q1, .inr ⟨od, hdL⟩, q3⟩
    · exact ⟨d', kvs, q1, .inl (by rw [hoL _ e]; exact q2), q3⟩
  walk_at "ga"
  refine l_itK ?_
  walk_at "ga"
  refine l_ixL (SqL.of hrsL) (atI_end hd1 hrl) ?_
  refine ⟨d, od, rfl, .inl ⟨pv, hdL, ?_⟩⟩
  refine forK (fun j σ' H' => ∃ bv z4 z5 z6 z7, σ' = [some (.ref g), some (.ref nl), some (.ref l), some bv, z4, z5, z6, z7] ∧ Same HL H' ∧ BstV K H' G G.length pv j bv)
    ⟨_, _, _, _, _, rfl, Same.refl HL, .inl ⟨rfl, rfl⟩⟩ (fun j σ' H' _ h => ?_) (fun j key v σ' H4 hj h => ?_) (fun σ' H4 h => ?_)
  · obtain ⟨_, _, _, _, _, _, e4, _⟩ := h
    exact e4 _ _ hdL
  · obtain ⟨bv, z4, z5, z6, z7, rfl, e4, hB⟩ := h
    obtain ⟨u, hu, eu⟩ := hpv.nk.rng _ (List.mem_of_getElem? hj)
    have eu : key = .inl (u : Int) := eu
    subst eu
    have hval := valV_own hpv.nk.nd (List.mem_of_getElem? hj)
    obtain ⟨x, rfl, _⟩ := hpv.snd u v hval
    have hval : valV pv (.inl (u : Int)) = some (.int x) := hval
    have hxw : MaxW G G.length u x := hpv.mw hval
    show gName 4 (V.int (u : Nat)) _ _ _
    have hnl4 := e4 _ _ hnlL
    walk_at "ga"
    rw [vNats_len, hml]
    refine forR (fun m σ' H' => ∃ lv z6 z7, σ' = [some (.ref g), some (.ref nl), some (.ref l), some bv, some (.int (u : Nat)), some lv, z6, z7] ∧ Same H4 H' ∧ LstV K H' G G.length u x m lv) (by omega)
      ⟨_, _, _, rfl, Same.refl H4, .inl ⟨rfl, fun k y hk => by omega⟩⟩ (fun m σ' H5 hm h => ?_) (fun σ' H5 h => ?_)
    · obtain ⟨lv, y6, y7, rfl, e5, hL⟩ := h
      have eL5 := e4.trans e5
      obtain ⟨d', kvs, q1, q2, q3⟩ := hrow m (by omega)
      have hd5 : Rd H5 d' (.dK kvs) := by
        rcases q2 with q2 | ⟨o, q2⟩
        · exact .inl (eL5 _ _ q2)
        · exact .inr ⟨o, eL5 _ _ q2⟩
      have hrs5 := eL5 _ _ hrsL
      walk_at "ga"
      refine l_din ?_
      walk_at "ga"
      refine l_ixL (SqL.of hrs5) (atI_nat q1) ?_
      refine ⟨d', _, rfl, dget_l hd5, ?_⟩
      walk_at "ga"
      cases hv : valV kvs (.inl (u : Int)) with
      | none =>
        refine l_iF rfl ?_
        walk_at "ga"
        have hno : ∀ y, ¬ MaxW G m u y := fun y hy => by rw [q3.of_mw hy] at hv; cases hv
        refine ⟨lv, _, _, rfl, e5, ?_⟩
        rcases hL with ⟨rfl, hL⟩ | ⟨a, p, q, h1, h2, h3, h4, h5⟩
        · refine .inl ⟨rfl, fun k y hk hy => ?_⟩
          by_cases e : k = m
          · subst e; exact hno y hy
          · exact hL k y (by omega) hy
        · exact .inr ⟨a, p, q, h1, h2, h3, h4, h5.skip hno⟩
      | some x0 =>
        obtain ⟨y, rfl, _⟩ := q3.snd u x0 hv
        have hyw := q3.mw hv
        refine l_iT rfl ?_
        walk_at "ga"
        refine l_dget ?_
        walk_at "ga"
        refine l_ixL (SqL.of hrs5) (atI_end hd1 hrl) ?_
        walk_at "ga"
        refine ⟨d, .int x, rfl, by rw [← hval]; exact dget_l (.inr ⟨od, eL5 _ _ hdL⟩), ?_⟩
        walk_at "ga"
        refine l_dget ?_
        walk_at "ga"
        refine l_ixL (SqL.of hrs5) (atI_nat q1) ?_
        walk_at "ga"
        refine ⟨d', .int y, rfl, by rw [← hv]; exact dget_l hd5, ?_⟩
        have hnl5 := e5 _ _ hnl4
        walk_at "ga"
        rw [vNats_len, hml]
        refine l_mkT (by show 2 ≤ sizeLine; decide) fun pf H6 e6 hp6 hm6 => ?_
        have hnew : TD K H6 (.ref pf) (.tuple [.int (x - y), .int ((G.length : Nat) - (m : Nat))]) := .tup (SqT.of hm6) (.two (.int _) (.int _))
        have e56 := e5.trans e6
        rcases hL with ⟨rfl, hL⟩ | ⟨a, p, q, rfl, h2, h3, h4, h5⟩
        · walk_at "ga"
          exact ⟨_, _, _, rfl, e56, .inr ⟨pf, _, _, rfl, hnew, by omega, by omega, LeastS.first hL hyw⟩⟩
        · walk_at "ga"
          have h2' := td_same e6 h2
          refine ⟨_, _, p, q, x - y, (G.length : Nat) - (m : Nat), rfl, h2', hnew, h3, h4, by omega, by omega, ?_⟩
          walk_at "ga"
          refine l_i2 (fun e => ?_) (fun e => ?_)
          · have e := of_decide_eq_true e
            walk_at "ga"
            exact ⟨_, _, _, rfl, e56, .inr ⟨pf, _, _, rfl, hnew, by omega, by omega, h5.new h3 (by omega) hyw e⟩⟩
          · have e := of_decide_eq_false e
            walk_at "ga"
            exact ⟨_, _, _, rfl, e56, .inr ⟨a, p, q, rfl, h2', h3, h4, h5.keep hyw (by omega)⟩⟩
    · obtain ⟨lv, y6, y7, rfl, e5, hL⟩ := h
      have e45 := e4.trans e5
      rcases hL with ⟨rfl, hL⟩ | ⟨a, p, q, rfl, h2, h3, h4, h5⟩
      · obtain ⟨k, y, hk, hw⟩ := hpig u x hxw.1
        obtain ⟨d', kvs, q1, q2, q3⟩ := hrow k (by omega)
        obtain ⟨y', h6, _⟩ := q3.max u y hw
        exact absurd (q3.mw h6) (hL k y' hk)
      · rcases hB with ⟨rfl, rfl⟩ | ⟨c, r, s, rfl, g2, g3, g4, g5⟩
        · walk_at "ga"
          exact ⟨_, _, _, _, _, rfl, e45, .inr ⟨a, p, q, rfl, h2, h3, h4, BestS.first hj h5⟩⟩
        · walk_at "ga"
          have g2' := td_same e5 g2
          refine ⟨_, _, p, q, r, s, rfl, h2, g2', h3, h4, g3, g4, ?_⟩
          walk_at "ga"
          refine l_i2 (fun e => ?_) (fun e => ?_)
          · have e := of_decide_eq_true e
            walk_at "ga"
            exact ⟨_, _, _, _, _, rfl, e45, .inr ⟨a, p, q, rfl, h2, h3, h4, g5.new g3 h3 hj h5 e⟩⟩
          · have e := of_decide_eq_false e
            walk_at "ga"
            exact ⟨_, _, _, _, _, rfl, e45, .inr ⟨c, r, s, rfl, g2', g3, g4, g5.keep hj h5 (by omega)⟩⟩
  · obtain ⟨bv, z4, z5, z6, z7, rfl, e4, hB⟩ := h
    have hd4 := e4 _ _ hdL
    refine ⟨hd4, ?_⟩
    have e5 : Same H2 (upd H4 d (.dK pv)) := fun b o q => by
      by_cases e : b = d
      · subst e
        rw [hd2] at q
        rw [upd_same]
        exact q
      · rw [upd_ne e]
        exact e4 _ _ (by rw [hoL b e]; exact q)
    have t5 : TupX K H4 (upd H4 d (.dK pv)) := TupX.up (fun zs z => by
      rcases z with z | ⟨o, z⟩ <;> rw [hd4] at z <;> cases z)
    revert e5 t5
    generalize upd H4 d (.dK pv) = H5
    intro e5 t5
    have e05 := e02.trans e5
    rcases hB with ⟨rfl, hpl⟩ | ⟨c, r, s, rfl, g2, g3, g4, g5⟩
    · walk_at "ga"
      refine k0 (fun v x hx => ?_) H5 e05
      obtain ⟨y, h1, _⟩ := hpv.max v x hx
      obtain ⟨i, hi⟩ := valV_mem h1
      have := (List.getElem?_eq_some_iff.mp hi).1
      omega
    · obtain ⟨gg, c1, c2, c3, c4, c5, c6⟩ := low_frac (p := r) g3
      obtain ⟨m1, m2⟩ := g5.mean hpv c1 c3 c4
      have g2' := g2.mono t5
      obtain ⟨c', u1, u2, ec, hc, q1, q2⟩ := id g2'.t2
      cases ec
      cases q1.int_inv
      cases q2.int_inv
      walk_at "ga"
      refine ⟨r, s, rfl, g3, g4, fun rv H6 e6 hrv => ?_⟩
      rw [← c2] at hrv
      have hle : s / gg ≤ s := Int.ediv_le_self _ (by omega)
      exact k1 _ _ c5 (by omega) c6 m1 m2 rv H6 (e05.trans e6) hrv
end
/-! ### the pairs of stands and nodes that come, mirrored -/
abbrev AnsN := List Bool × Int × Nat
abbrev MvN := List Bool × List AnsN
abbrev Play := List (List Bool)
def ansN (R : List (List Bool)) (e : Ans) : AnsN := (e.1, e.2.1, ixOf e.2.2 R)
/-- the moves of a node -/
def movesN (b : Book) (node : Nat) : List MvN := (movesM b ((rowM b).getD node [])).map fun mv => (mv.1, mv.2.map (ansN (rowM b)))
def encAnsN (e : AnsN) : PyData := .tuple [encB e.1, .int e.2.1, .int (e.2.2 : Nat)]
def encMvN (mv : MvN) : PyData := .tuple [encB mv.1, .tuple (mv.2.map encAnsN)]
theorem nodeD_eq {b : Book} {node : Nat} {mem : List Bool} (h : (rowM b)[node]? = some mem) : nodeD b (rowM b) mem = .tuple [encB mem, .tuple ((movesN b node).map encMvN)] := by
  unfold nodeD movesN
  rw [List.getD_eq_getElem?_getD, h, Option.getD_some, List.map_map]
  have e : (movesM b mem).map (mvD (rowM b)) = (movesM b mem).map (encMvN ∘ fun mv => (mv.1, mv.2.map (ansN (rowM b)))) := List.map_congr_left fun mv _ => by
    show PyData.tuple [encB mv.1, .tuple (mv.2.map (ansD (rowM b)))] = PyData.tuple [encB mv.1, .tuple ((mv.2.map (ansN (rowM b))).map encAnsN)]
    rw [List.map_map]
    rfl
  rw [e]
structure Sr where
  pairs : List (Nat × Nat)
  plays : List Play
  ahead : List (Option (Nat × List Bool))
def sr0 : Sr := ⟨[(0, 0)], [[]], [none]⟩
def Sr.add (s : Sr) (u : Nat) (p : Nat × Nat) (st : List Bool) : Sr :=
  if p ∈ s.pairs then s else ⟨s.pairs ++ [p], s.plays ++ [s.plays.getD u [] ++ [st]], s.ahead ++ [some (u, st)]⟩
/-- a pair's edges so far, and their settings -/
abbrev Acc := Sr × List (Int × Nat) × Play
def friendOf (b : Book) (M : Mach) (s : Sr) (u : Nat) (foe : List Bool) : List Bool × Nat := stepM b M (s.pairs.getD u (0, 0)).1 foe
def srStep (b : Book) (M : Mach) (u : Nat) (mv : MvN) (acc : Acc) : Option Acc :=
  match mv.2.find? fun a => decide (a.1 = (friendOf b M acc.1 u mv.1).1) with
  | none => none
  | some a => some (acc.1.add u ((friendOf b M acc.1 u mv.1).2, a.2.2) (mv.1 ++ (friendOf b M acc.1 u mv.1).1),
      acc.2.1 ++ [(a.2.1, ixOf ((friendOf b M acc.1 u mv.1).2, a.2.2) (acc.1.add u ((friendOf b M acc.1 u mv.1).2, a.2.2) (mv.1 ++ (friendOf b M acc.1 u mv.1).1)).pairs)],
      acc.2.2 ++ [mv.1 ++ (friendOf b M acc.1 u mv.1).1])
def srFold (b : Book) (M : Mach) (u : Nat) : List MvN → Acc → Play ⊕ Acc
  | [], acc => .inr acc
  | mv :: r, acc => match srStep b M u mv acc with
    | none => .inl (acc.1.plays.getD u [] ++ [mv.1 ++ (friendOf b M acc.1 u mv.1).1])
    | some acc' => srFold b M u r acc'
abbrev Res := Sr × Gr × List Play
def srRun (b : Book) (M : Mach) : Nat → Res → Play ⊕ Res
  | 0, r => .inr r
  | f + 1, r => if r.2.1.length < r.1.pairs.length then
      match srFold b M r.2.1.length (movesN b (r.1.pairs.getD r.2.1.length (0, 0)).2) (r.1, [], []) with
      | .inl p => .inl p
      | .inr acc => srRun b M f (acc.1, r.2.1 ++ [acc.2.1], r.2.2 ++ [acc.2.2])
    else .inr r
def srRes (b : Book) (M : Mach) : Play ⊕ Res := srRun b M 100 (sr0, [], [])
theorem srFold_nil {b : Book} {M : Mach} {u : Nat} {acc : Acc} : srFold b M u [] acc = .inr acc := rfl
theorem srFold_none {b : Book} {M : Mach} {u : Nat} {mv : MvN} {r : List MvN} {acc : Acc} (h : srStep b M u mv acc = none) :
    srFold b M u (mv :: r) acc = .inl (acc.1.plays.getD u [] ++ [mv.1 ++ (friendOf b M acc.1 u mv.1).1]) := by rw [srFold.eq_2, h]
theorem srFold_some {b : Book} {M : Mach} {u : Nat} {mv : MvN} {r : List MvN} {acc acc' : Acc} (h : srStep b M u mv acc = some acc') : srFold b M u (mv :: r) acc = srFold b M u r acc' := by rw [srFold.eq_2, h]
theorem srRun_brk {b : Book} {M : Mach} {f : Nat} {r : Res} {p : Play} (h : r.2.1.length < r.1.pairs.length) (h2 : srFold b M r.2.1.length (movesN b (r.1.pairs.getD r.2.1.length (0, 0)).2) (r.1, [], []) = .inl p) : srRun b M (f + 1) r = .inl p := by
  rw [srRun.eq_2, if_pos h, h2]
theorem srRun_go {b : Book} {M : Mach} {f : Nat} {r : Res} {acc : Acc} (h : r.2.1.length < r.1.pairs.length) (h2 : srFold b M r.2.1.length (movesN b (r.1.pairs.getD r.2.1.length (0, 0)).2) (r.1, [], []) = .inr acc) :
    srRun b M (f + 1) r = srRun b M f (acc.1, r.2.1 ++ [acc.2.1], r.2.2 ++ [acc.2.2]) := by
  rw [srRun.eq_2, if_pos h, h2]
theorem srRun_end {b : Book} {M : Mach} {f : Nat} {r : Res} (h : r.1.pairs.length ≤ r.2.1.length) : srRun b M f r = .inr r := by
  cases f with
  | zero => rfl
  | succ f => rw [srRun.eq_2, if_neg (by omega)]
/-! ### what is kept -/
/-- of the pairs -/
structure SrOk (b : Book) (M : Mach) (s : Sr) : Prop where
  nd : s.pairs.Nodup
  rng : ∀ p ∈ s.pairs, p.1 < M.length ∧ p.2 < (rowM b).length
  z : s.pairs[0]? = some (0, 0)
  l1 : s.plays.length = s.pairs.length
  l2 : s.ahead.length = s.pairs.length
  p0 : s.plays[0]? = some []
  a0 : s.ahead[0]? = some none
  ah : ∀ i, 0 < i → i < s.pairs.length → ∃ j st p, j < i ∧ s.ahead[i]? = some (some (j, st)) ∧ s.plays[j]? = some p ∧ s.plays[i]? = some (p ++ [st]) ∧ st.length = b.names.length
theorem SrOk.len {b : Book} {M : Mach} {s : Sr} (hb : b.Ok) (hM : M.length ≤ 5) (h : SrOk b M s) : s.pairs.length ≤ 80 := by
  have q := nodup_len (m := (List.range M.length).flatMap fun i => (List.range (rowM b).length).map fun j => (i, j)) h.nd fun p hp => by
    obtain ⟨h1, h2⟩ := h.rng p hp
    exact List.mem_flatMap.mpr ⟨p.1, List.mem_range.mpr h1, List.mem_map.mpr ⟨p.2, List.mem_range.mpr h2, rfl⟩⟩
  have e : ((List.range M.length).flatMap fun i => (List.range (rowM b).length).map fun j => (i, j)).length = M.length * (rowM b).length := by
    rw [List.length_flatMap]
    have : (List.range M.length).map (fun i => ((List.range (rowM b).length).map fun j => (i, j)).length) = (List.range M.length).map fun _ => (rowM b).length := by
      refine List.map_congr_left fun i _ => ?_
      rw [List.length_map, List.length_range]
    rw [this, List.map_const', List.sum_replicate_nat, List.length_range]
  rw [e] at q
  have h16 : (rowM b).length ≤ 16 := rowM_16 hb
  have := Nat.mul_le_mul hM h16
  omega
theorem rowM_pos (b : Book) : 0 < (rowM b).length := (List.getElem?_eq_some_iff.mp (rowM_0 (b := b))).1
theorem SrOk.init {b : Book} {M : Mach} (hM : MOk b M) : SrOk b M sr0 where
  nd := List.nodup_cons.mpr ⟨(fun z => nomatch z), List.nodup_nil⟩
  rng := fun p hp => by
    rw [List.mem_singleton.mp hp]
    exact ⟨hM.one, rowM_pos b⟩
  z := rfl
  l1 := rfl
  l2 := rfl
  p0 := rfl
  a0 := rfl
  ah := fun i h1 h2 => by
    have : sr0.pairs.length = 1 := rfl
    omega
theorem SrOk.add {b : Book} {M : Mach} {s : Sr} {u : Nat} {p : Nat × Nat} {st : List Bool} (h : SrOk b M s) (hu : u < s.pairs.length) (hp : p.1 < M.length ∧ p.2 < (rowM b).length) (hst : st.length = b.names.length) : SrOk b M (s.add u p st) := by
  unfold Sr.add
  split
  · exact h
  · next hn =>
    have hpos : 0 < s.pairs.length := by omega
    have l1 := h.l1
    have l2 := h.l2
    refine ⟨?_, fun q hq => ?_, ?_, ?_, ?_, ?_, ?_, fun i h1 h2 => ?_⟩
    · refine List.nodup_append.mpr ⟨h.nd, List.nodup_cons.mpr ⟨(fun z => nomatch z), List.nodup_nil⟩, fun a ha c hc => ?_⟩
      rw [List.mem_singleton.mp hc]
      rintro rfl
      exact hn ha
    · rcases List.mem_append.mp hq with hq | hq
      · exact h.rng q hq
      · rw [List.mem_singleton.mp hq]; exact hp
    · show (s.pairs ++ [p])[0]? = _
      rw [List.getElem?_append_left hpos]; exact h.z
    · show (_ ++ [_]).length = (_ ++ [_]).length
      rw [List.length_append, List.length_append, l1]; rfl
    · show (_ ++ [_]).length = (_ ++ [_]).length
      rw [List.length_append, List.length_append, l2]; rfl
    · show (s.plays ++ [_])[0]? = _
      rw [List.getElem?_append_left (by omega)]; exact h.p0
    · show (s.ahead ++ [_])[0]? = _
      rw [List.getElem?_append_left (by omega)]; exact h.a0
    · have h2 : i < s.pairs.length + 1 := by
        have : (s.pairs ++ [p]).length = s.pairs.length + 1 := by rw [List.length_append]; rfl
        rw [← this]; exact h2
      show ∃ j st' q, j < i ∧ (s.ahead ++ [some (u, st)])[i]? = some (some (j, st')) ∧ (s.plays ++ [_])[j]? = some q ∧ (s.plays ++ [_])[i]? = some (q ++ [st']) ∧ _
      by_cases hi : i < s.pairs.length
      · obtain ⟨j, st', q, g1, g2, g3, g4, g5⟩ := h.ah i h1 hi
        exact ⟨j, st', q, g1, by rw [List.getElem?_append_left (by omega)]; exact g2, by rw [List.getElem?_append_left (by omega)]; exact g3, by rw [List.getElem?_append_left (by omega)]; exact g4, g5⟩
      · have e : i = s.pairs.length := by omega
        subst e
        refine ⟨u, st, s.plays.getD u [], hu, ?_, ?_, ?_, hst⟩
        · rw [List.getElem?_append_right (by omega), l2, Nat.sub_self]; rfl
        · rw [List.getElem?_append_left (by omega), List.getD_eq_getElem?_getD, List.getElem?_eq_getElem (by omega), Option.getD_some]
        · rw [List.getElem?_append_right (by omega), l1, Nat.sub_self]; rfl
theorem Sr.add_ext (s : Sr) (u : Nat) (p : Nat × Nat) (st : List Bool) : ∃ t t2 t3, (s.add u p st).pairs = s.pairs ++ t ∧ (s.add u p st).plays = s.plays ++ t2 ∧ (s.add u p st).ahead = s.ahead ++ t3 := by
  unfold Sr.add
  split
  · exact ⟨[], [], [], (List.append_nil _).symm, (List.append_nil _).symm, (List.append_nil _).symm⟩
  · exact ⟨_, _, _, rfl, rfl, rfl⟩
theorem Sr.add_pairs (s : Sr) (u : Nat) (p : Nat × Nat) (st : List Bool) : (s.add u p st).pairs = add1 s.pairs p := by
  unfold Sr.add add1
  split <;> rfl
/-- of a node's moves -/
theorem movesN_ok {b : Book} (hb : b.Ok) {node : Nat} (hn : node < (rowM b).length) {mv : MvN} (h : mv ∈ movesN b node) : mv.1.length = b.foe.length ∧ ∀ a ∈ mv.2, a.1.length = b.fr.length ∧ a.2.2 < (rowM b).length := by
  unfold movesN at h
  have hg : (rowM b)[node]? = some ((rowM b)[node]) := List.getElem?_eq_getElem hn
  rw [List.getD_eq_getElem?_getD, hg, Option.getD_some] at h
  have hmem : (rowM b)[node] ∈ rowM b := List.getElem_mem hn
  obtain ⟨mv0, hmv0, rfl⟩ := List.mem_map.mp h
  have hcl := rowM_closed hb hmem
  have hmv1 := hmv0
  unfold movesM at hmv1
  obtain ⟨foe, hfoe, rfl⟩ := List.mem_map.mp hmv1
  refine ⟨settings_mem_len (List.mem_filter.mp hfoe).1, fun a ha => ?_⟩
  obtain ⟨e, he, rfl⟩ := List.mem_map.mp ha
  have hin : e.2.2 ∈ rowM b := hcl _ (List.mem_flatMap.mpr ⟨_, hmv0, List.mem_map.mpr ⟨e, he, rfl⟩⟩)
  have he2 : e ∈ answersM b ((rowM b)[node]) foe := he
  unfold answersM at he2
  obtain ⟨fr, hfr, rfl⟩ := List.mem_map.mp he2
  exact ⟨settings_mem_len (List.mem_filter.mp hfr).1, ixOf_lt hin⟩
theorem find_mem {α : Type} {p : α → Bool} {l : List α} {a : α} (h : l.find? p = some a) : a ∈ l ∧ p a = true := ⟨List.mem_of_find?_eq_some h, List.find?_some h⟩
def encP (p : Nat × Nat) : PyData := .tuple [.int (p.1 : Nat), .int (p.2 : Nat)]
def encA : Option (Nat × List Bool) → PyData
  | none => .none
  | some (j, st) => .tuple [.int (j : Nat), encB st]
theorem encP_eqv (p q : Nat × Nat) : PyData.eqv (encP p) (encP q) = true ↔ p = q := by
  unfold encP
  rw [eqv_tup, eqvA_cons, eqvA_cons, eqvA_nil, eqv_int, eqv_int, Bool.and_true, Bool.and_eq_true, decide_eq_true_eq, decide_eq_true_eq]
  constructor
  · rintro ⟨h1, h2⟩
    exact Prod.ext (by omega) (by omega)
  · rintro rfl
    exact ⟨rfl, rfl⟩
theorem encP_lay (p : Nat × Nat) : PyData.canLay0 (encP p) = true := by unfold encP; rw [lay_tup, lay_cons, lay_cons, lay_nil, lay_int, lay_int]; rfl
theorem encP_dep (p : Nat × Nat) : (encP p).depth ≤ 1 := by
  unfold encP
  rw [dep_tup, dep_cons, dep_cons, dep_nil, dep_int, dep_int]
  exact Nat.le_refl _
theorem encP_shaped (p : Nat × Nat) : SeqAt.shaped (encP p) = true := shaped_of (encP_lay p) (Nat.le_trans (encP_dep p) (by decide))
theorem encPs_shaped (ps : List (Nat × Nat)) : SeqAt.shaped (.list (ps.map encP)) = true := by
  refine shaped_of ?_ ?_
  · rw [lay_lst]; exact lay_map fun s _ => encP_lay s
  · rw [dep_lst]
    have := dep_map (f := encP) (n := 1) (l := ps) fun s _ => encP_dep s
    omega
theorem eqv_firstG {α : Type} [DecidableEq α] {f : α → PyData} (hf : ∀ x y, PyData.eqv (f x) (f y) = true ↔ x = y) {ps : List α} {s : α} {m : Nat} {z : PyData} (hm : m < ixOf s ps) (hz : (ps.map f)[m]? = some z) : PyData.eqv z (f s) = false := by
  rw [List.getElem?_map] at hz
  obtain ⟨q, hq, rfl⟩ := Option.map_eq_some_iff.mp hz
  cases e : PyData.eqv (f q) (f s) with
  | false => rfl
  | true =>
    rw [(hf q s).mp e] at hq
    exact absurd hq (ixOf_first hm)
structure JA where
  dx : Addr
  nl : Addr
  mv : V
  ol : Addr
  pl : Addr
  gl : Addr
  sl : Addr
  al : Addr
section
variable {P : Program} {w : World} {K : PySem.W.Frag} {mg : Str → Option Value} {base : Heap}
theorem l_ixP {H : Hp} {Q : VK} {l c : Addr} {ws : List V} {ss : List (Nat × Nat)} {s : Nat × Nat} (hl : SqL K H l ws) (hw : TDs K H ws (ss.map encP)) (hc : TD K H (.ref c) (encP s)) (hm : s ∈ ss) (q : Q (.int (ixOf s ss : Nat)) H) :
    rIndexD K (.ref l) [.ref c] H Q := by
  refine ⟨l, _, encP s, ss.map encP, ixOf s ss, encP s, rfl, rfl, dpl hl hw, hc.dp, encPs_shaped _, encP_shaped _, ?_, (encP_eqv s s).mpr rfl, fun m z' hm hz => eqv_firstG encP_eqv hm hz, q⟩
  rw [List.getElem?_map, ixOf_get hm]
  rfl
def judgeO (K : PySem.W.Frag) (J : JA) : HO := .ins (He.ga K "Judge") J.dx [("nodes", .ref J.nl), ("machine", J.mv), ("order", .ref J.ol), ("pairs", .ref J.pl), ("graph", .ref J.gl), ("sets", .ref J.sl), ("ahead", .ref J.al)]
structure JFix (K : PySem.W.Frag) (H : Hp) (a : Addr) (J : JA) (b : Book) (M : Mach) : Prop where
  obj : H a = some (judgeO K J)
  nodes : ∃ ws, H J.nl = some (.lst ws) ∧ TDs K H ws ((rowM b).map (nodeD b (rowM b)))
  mach : TD K H J.mv (encMach M)
  ord : ∃ ws, H J.ol = some (.lst ws) ∧ TDs K H ws ((settings b.foe.length).map encB)
  nd : [J.nl, J.ol, J.pl, J.gl, J.sl, J.al].Nodup
structure JPairs (K : PySem.W.Frag) (H : Hp) (J : JA) (s : Sr) : Prop where
  pr : ∃ ws, H J.pl = some (.lst ws) ∧ TDs K H ws (s.pairs.map encP)
  ah : ∃ us, H J.al = some (.lst us) ∧ TDs K H us (s.ahead.map encA)
theorem JFix.same {H H' : Hp} {a : Addr} {J : JA} {b : Book} {M : Mach} (e : Same H H') (h : JFix K H a J b M) : JFix K H' a J b M := by
  obtain ⟨h1, ⟨ws, h2, h3⟩, h4, ⟨us, h5, h6⟩, h7⟩ := h
  exact ⟨e _ _ h1, ⟨ws, e _ _ h2, tds_same e h3⟩, td_same e h4, ⟨us, e _ _ h5, tds_same e h6⟩, h7⟩
theorem JPairs.same {H H' : Hp} {J : JA} {s : Sr} (e : Same H H') (h : JPairs K H J s) : JPairs K H' J s := by
  obtain ⟨⟨ws, h1, h2⟩, us, h3, h4⟩ := h
  exact ⟨⟨ws, e _ _ h1, tds_same e h2⟩, us, e _ _ h3, tds_same e h4⟩
theorem JPairs.nt {H : Hp} {J : JA} {s : Sr} (h : JPairs K H J s) : NTup H [J.pl, J.al] := by
  obtain ⟨⟨ws, h1, h2⟩, us, h3, h4⟩ := h
  exact NTup.cons (nt_lst h1) (NTup.cons (nt_lst h3) NTup.nil)
/-- the fixed part does not see what is put into the lists -/
theorem JFix.ex {H H' : Hp} {a : Addr} {J : JA} {b : Book} {M : Mach} {S : List Addr} (e : SameEx S H H') (hS : NTup H S) (h1 : a ∉ S) (h2 : J.nl ∉ S) (h3 : J.ol ∉ S) (h : JFix K H a J b M) : JFix K H' a J b M := by
  obtain ⟨g1, ⟨ws, g2, g3⟩, g4, ⟨us, g5, g6⟩, g7⟩ := h
  have t := e.tup (K := K) hS
  exact ⟨e _ _ h1 g1, ⟨ws, e _ _ h2 g2, g3.mono t⟩, g4.mono t, ⟨us, e _ _ h3 g5, g6.mono t⟩, g7⟩
theorem JPairs.ex {H H' : Hp} {J : JA} {s : Sr} {S : List Addr} (e : SameEx S H H') (hS : NTup H S) (h1 : J.pl ∉ S) (h2 : J.al ∉ S) (h : JPairs K H J s) : JPairs K H' J s := by
  obtain ⟨⟨ws, g1, g2⟩, us, g3, g4⟩ := h
  have t := e.tup (K := K) hS
  exact ⟨⟨ws, e _ _ h1 g1, g2.mono t⟩, us, e _ _ h2 g3, g4.mono t⟩
section
variable {H : Hp} {R : V → Prop} {a : Addr} {J : JA}
theorem l_Jnodes (D : Hd K mg) (h : H a = some (judgeO K J)) (q : R (.ref J.nl)) : ∃ b C dx fs u, V.ref a = .ref b ∧ H b = some (.ins C dx fs) ∧ Cls K C ∧ NoAttr K C "nodes" ∧ fs.lookup ("nodes" : Str) = some u ∧ R u := ⟨a, _, _, _, _, rfl, h, cl_Judge D, na_Judge_nodes D, rfl, q⟩
theorem l_Jmach (D : Hd K mg) (h : H a = some (judgeO K J)) (q : R J.mv) : ∃ b C dx fs u, V.ref a = .ref b ∧ H b = some (.ins C dx fs) ∧ Cls K C ∧ NoAttr K C "machine" ∧ fs.lookup ("machine" : Str) = some u ∧ R u := ⟨a, _, _, _, _, rfl, h, cl_Judge D, na_Judge_machine D, rfl, q⟩
theorem l_Jord (D : Hd K mg) (h : H a = some (judgeO K J)) (q : R (.ref J.ol)) : ∃ b C dx fs u, V.ref a = .ref b ∧ H b = some (.ins C dx fs) ∧ Cls K C ∧ NoAttr K C "order" ∧ fs.lookup ("order" : Str) = some u ∧ R u := ⟨a, _, _, _, _, rfl, h, cl_Judge D, na_Judge_order D, rfl, q⟩
theorem l_Jpairs (D : Hd K mg) (h : H a = some (judgeO K J)) (q : R (.ref J.pl)) : ∃ b C dx fs u, V.ref a = .ref b ∧ H b = some (.ins C dx fs) ∧ Cls K C ∧ NoAttr K C "pairs" ∧ fs.lookup ("pairs" : Str) = some u ∧ R u := ⟨a, _, _, _, _, rfl, h, cl_Judge D, na_Judge_pairs D, rfl, q⟩
theorem l_Jgraph (D : Hd K mg) (h : H a = some (judgeO K J)) (q : R (.ref J.gl)) : ∃ b C dx fs u, V.ref a = .ref b ∧ H b = some (.ins C dx fs) ∧ Cls K C ∧ NoAttr K C "graph" ∧ fs.lookup ("graph" : Str) = some u ∧ R u := ⟨a, _, _, _, _, rfl, h, cl_Judge D, na_Judge_graph D, rfl, q⟩
theorem l_Jsets (D : Hd K mg) (h : H a = some (judgeO K J)) (q : R (.ref J.sl)) : ∃ b C dx fs u, V.ref a = .ref b ∧ H b = some (.ins C dx fs) ∧ Cls K C ∧ NoAttr K C "sets" ∧ fs.lookup ("sets" : Str) = some u ∧ R u := ⟨a, _, _, _, _, rfl, h, cl_Judge D, na_Judge_sets D, rfl, q⟩
theorem l_Jahead (D : Hd K mg) (h : H a = some (judgeO K J)) (q : R (.ref J.al)) : ∃ b C dx fs u, V.ref a = .ref b ∧ H b = some (.ins C dx fs) ∧ Cls K C ∧ NoAttr K C "ahead" ∧ fs.lookup ("ahead" : Str) = some u ∧ R u := ⟨a, _, _, _, _, rfl, h, cl_Judge D, na_Judge_ahead D, rfl, q⟩
end
/-! ### edge -/
def spEdge (K : PySem.W.Frag) : Sp := fun vs H Q _ => ∃ (a f : Addr) (v : V) (J : JA) (b : Book) (M : Mach) (s : Sr) (u : Nat) (foe : List Bool) (as : List AnsN), vs = [.ref a, .int (u : Nat), .ref f, v] ∧ JFix K H a J b M ∧ JPairs K H J s ∧ SrOk b M s ∧ b.Ok ∧ MOk b M ∧ M.length ≤ 5 ∧
  u < s.pairs.length ∧ SqT K H f (foe.map V.bl) ∧ foe.length = b.foe.length ∧ TD K H v (.tuple (as.map encAnsN)) ∧ (∀ x ∈ as, x.1.length = b.fr.length ∧ x.2.2 < (rowM b).length) ∧
  ((as.find? fun x => decide (x.1 = (friendOf b M s u foe).1)) = none → ∀ H', Same H H' → Q .non H') ∧
  (∀ x, (as.find? fun x => decide (x.1 = (friendOf b M s u foe).1)) = some x → ∀ c H', SameEx [J.pl, J.al] H H' → JPairs K H' J (s.add u ((friendOf b M s u foe).2, x.2.2) (foe ++ (friendOf b M s u foe).1)) →
    TD K H' (.ref c) (.tuple [.int x.2.1, .int (ixOf ((friendOf b M s u foe).2, x.2.2) (s.add u ((friendOf b M s u foe).2, x.2.2) (foe ++ (friendOf b M s u foe).1)).pairs : Nat)]) → Q (.ref c) H')
theorem find_first {α : Type} {p : α → Bool} : ∀ {l : List α} {i : Nat} {x : α}, (∀ y ∈ l.take i, p y = false) → l[i]? = some x → p x = true → l.find? p = some x
  | y :: l, 0, x, _, h2, h3 => by
    have e : y = x := by simpa using h2
    subst e
    exact List.find?_cons_of_pos h3
  | y :: l, i + 1, x, h1, h2, h3 => by
    have hy : p y = false := h1 y (by simp)
    rw [List.find?_cons_of_neg (by rw [hy]; exact Bool.false_ne_true)]
    exact find_first (i := i) (fun z hz => h1 z (by rw [List.take_succ_cons]; exact List.mem_cons_of_mem _ hz)) (by simpa using h2) h3
theorem find_no {α : Type} {p : α → Bool} {l : List α} (h : ∀ y ∈ l, p y = false) : l.find? p = none := List.find?_eq_none.mpr fun x hx => by rw [h x hx]; exact Bool.false_ne_true
theorem sc_Judge_edge : FnScope ["self", "at", "foe", "answers", "friend", "stand", "setting", "loss", "node"] ["self", "at", "foe", "answers"] (defScope s_Judge_edge) := ⟨rfl, rfl, rfl, by decide +kernel, rfl, by decide +kernel, by decide +kernel⟩
theorem ok_Judge_edge (D : Hd K mg) : OkM P w K mg base "Judge" "edge" ["self", "at", "foe", "answers"] 1 (spEdge K) := by
  obtain ⟨fd, F⟩ := F_Judge_edge D
  refine ⟨cl_Judge D, mt_Judge_edge D, fd, F.ok sc_Judge_edge (fun vs H Q E h => ?_) (fun cdv A outer sS H vs Q E hr h => ?_), F.bindsN fun _ _ _ _ _ _ us hl => match us, hl with | [_, _, _, _], _ => rfl⟩
  · obtain ⟨a, f, v, J, b, M, s, u, foe, as, rfl, _⟩ := h
    rfl
  obtain ⟨a, f, v, J, b, M, s, u, foe, as, rfl, hJ, hP, hs, hb, hM, hM5, hu, hf, hfl, hv, has, k0, k1⟩ := h
  obtain ⟨wn, hnl, hnd⟩ := hJ.nodes
  obtain ⟨wo, hol, hod⟩ := hJ.ord
  obtain ⟨wp, hpl, hpd⟩ := hP.pr
  obtain ⟨wa, hal, had⟩ := hP.ah
  have hlen := hs.len hb hM5
  have l2 := hs.l2
  have hr2 := hb.fr2
  have hf2 := hb.foe2
  have hnd6 := hJ.nd
  obtain ⟨p, hp⟩ : ∃ p, s.pairs[u]? = some p := ⟨_, List.getElem?_eq_getElem hu⟩
  have hpm := hs.rng p (List.mem_of_getElem? hp)
  have hpg : s.pairs.getD u (0, 0) = p := by rw [List.getD_eq_getElem?_getD, hp]; rfl
  obtain ⟨cm, ym, hcm, hTm, hsm⟩ := id hJ.mach.tup_inv
  obtain ⟨row, r1, r2, r3, r4⟩ := stepM_mem hM hpm.1 hfl
  have hfr : friendOf b M s u foe = stepM b M p.1 foe := by unfold friendOf; rw [hpg]
  rw [hfr] at k0 k1
  generalize stepM b M p.1 foe = fr at r2 r3 r4 k0 k1
  obtain ⟨u1, p1, p2⟩ := hsm.get (i := p.1) (d := encStand row) (by rw [List.getElem?_map, r1]; rfl)
  obtain ⟨ca, ya, rfl, hTa, hsa⟩ := p2.tup_inv
  obtain ⟨u2, p3, p4⟩ := hsa.get (i := ixOf foe (settings b.foe.length)) (d := encPair fr) (by rw [List.getElem?_map, r2]; rfl)
  obtain ⟨cb, w1, w2, rfl, hTb, q1, q2⟩ := p4.t2
  cases q2.int_inv
  obtain ⟨cf, rfl, hcf⟩ := q1.encB_inv
  obtain ⟨up, hup, hupd⟩ := hpd.get (i := u) (d := encP p) (by rw [List.getElem?_map, hp]; rfl)
  obtain ⟨cp, v1, v2, rfl, hTp, q3, q4⟩ := hupd.t2
  cases q3.int_inv
  cases q4.int_inv
  obtain ⟨cv, yv, rfl, hTv, hsv⟩ := hv.tup_inv
  have hyl : yv.length = as.length := by rw [hsv.length, List.length_map]
  refine ⟨_, (PSs.nox (pss_cons (ps_asg (pe_ix (ix_tupK K) (pe_ix (ix_tupK K) (pe_fldK K (pv 0)) (pe_ix (ix_tupK K) (pe_ix (ix_listK K) (pe_fldK K (pv 0)) (pv 1) (fun _ _ => rfl)) pe_int (fun _ _ => rfl)) (fun _ _ => rfl)) (pe_bmK K PySem.F.plainAttrs_list PySem.F.slot_list_index PySem.F.type_list_index (mt_ixDK K (hu65 hr)) (pe_fldK K (pv 0)) (pa_cons (pv 2) pa_nil)) (fun _ _ => rfl)) (pg_tupK K (n := 2) rfl (pgs_cons (pg_name (i := 4) sc_Judge_edge.nd rfl (Or.inl rfl)) (pgs_cons (pg_name (i := 5) sc_Judge_edge.nd rfl (Or.inl rfl)) pgs_nil))))
      (pss_cons (ps_for PassesOwn.never rfl (pi_tupK K (pv 3)) (pg_tupK K (n := 3) rfl (pgs_cons (pg_name (i := 6) sc_Judge_edge.nd rfl (Or.inl rfl)) (pgs_cons (pg_name (i := 7) sc_Judge_edge.nd rfl (Or.inl rfl)) (pgs_cons (pg_name (i := 8) sc_Judge_edge.nd rfl (Or.inl rfl)) pgs_nil)))) (pss_one (ps_if (pt_cmpR (op_eqDK K (hu64 hr)) (pv 6) (pv 4) (nomark _)) (C8.pss_cut (ps_if (pt_cmpR (op_niDK K (hu65 hr)) (pe_tup (pa_cons (pv 5) (pa_cons (pv 8) pa_nil))) (pe_fldK K (pv 0)) (by rfl)) (pss_cons (ps_expr (pe_bmK K PySem.F.plainAttrs_list PySem.F.slot_list_append PySem.F.type_list_append mt_append (pe_fldK K (pv 0)) (pa_cons (pe_tup (pa_cons (pv 5) (pa_cons (pv 8) pa_nil))) pa_nil)))
      (pss_one (ps_expr (pe_bmK K PySem.F.plainAttrs_list PySem.F.slot_list_append PySem.F.type_list_append mt_append (pe_fldK K (pv 0)) (pa_cons (pe_tup (pa_cons (pv 1) (pa_cons (pe_op (op_catAK K) (pv 2) (pv 4)) pa_nil))) pa_nil))))) pss_nil)
      (pss_one (ps_ret (pe_tup (pa_cons (pv 7) (pa_cons (pe_bmK K PySem.F.plainAttrs_list PySem.F.slot_list_index PySem.F.type_list_index (mt_ixDK K (hu65 hr)) (pe_fldK K (pv 0)) (pa_cons (pe_tup (pa_cons (pv 5) (pa_cons (pv 8) pa_nil))) pa_nil)) pa_nil)))))) pss_nil)))
      (pss_one (ps_ret pe_non))))), ?_⟩
  walk_at "ga"
  refine l_fldA ?_
  walk_at "ga"
  refine l_Jmach D hJ.obj ?_
  walk_at "ga"
  refine l_fldA ?_
  walk_at "ga"
  refine l_Jpairs D hJ.obj ?_
  walk_at "ga"
  refine l_ixL (SqL.of hpl) (atI_nat hup) ?_
  walk_at "ga"
  rw [hcm]
  refine l_ixT hTm (atI_nat p1) ?_
  walk_at "ga"
  refine l_fldA ?_
  walk_at "ga"
  refine l_Jord D hJ.obj ?_
  refine ⟨tyv_list (SqL.of hol), ?_⟩
  walk_at "ga"
  refine l_ixB (SqL.of hol) hod hf (settings_all hfl) ?_
  refine l_ixT hTa (atI_nat p3) ?_
  walk_at "ga"
  refine forT hTv (fun i σ' H' => ∃ z6 z7 z8, σ' = [some (.ref a), some (.int (u : Nat)), some (.ref f), some (.ref cv), some (.ref cf), some (.int (fr.2 : Nat)), z6, z7, z8] ∧ Same H H' ∧ ∀ x ∈ as.take i, decide (x.1 = fr.1) = false)
    ⟨_, _, _, rfl, Same.refl H, fun x hx => nomatch hx⟩ (fun i σ' H' _ h => ?_) (fun i x σ' H1 hx h => ?_) (fun σ' H' h => ?_)
  · obtain ⟨_, _, _, _, e1, _⟩ := h
    exact sqt_same e1 hTv
  · obtain ⟨z6, z7, z8, rfl, e1, hno⟩ := h
    obtain ⟨d, hd1, hx2⟩ := hsv.at hx
    rw [List.getElem?_map] at hd1
    obtain ⟨e, he, rfl⟩ := Option.map_eq_some_iff.mp hd1
    obtain ⟨ce, g1, g2, g3, rfl, hTe, h1, h2, h3⟩ := (td_same e1 hx2).t3
    cases h2.int_inv
    cases h3.int_inv
    obtain ⟨cs, rfl, hcs⟩ := h1.encB_inv
    have hcf1 := sqt_same e1 hcf
    have hpl1 := e1 _ _ hpl
    have hal1 := e1 _ _ hal
    have hpd1 := tds_same e1 hpd
    have had1 := tds_same e1 had
    walk_at "ga"
    refine l_eqD (td_encB hcs).dp (td_encB hcf1).dp (encB_shaped _) (encB_shaped _) ?_
    walk_at "go"
    by_cases hm : e.1 = fr.1
    · refine l_iT ((encB_eqv _ _).mpr hm) ?_
      have hfind := find_first (p := fun x : AnsN => decide (x.1 = fr.1)) hno he (decide_eq_true hm)
      have k2 := k1 e hfind
      have hrg := has e (List.mem_of_getElem? he)
      have hlad := (hs.add hu (p := (fr.2, e.2.2)) (st := foe ++ fr.1) ⟨r4, hrg.2⟩ (by unfold Book.names; rw [List.length_append, List.length_append, hfl, r3])).len hb hM5
      refine ⟨fun σ' H' => σ' = [some (.ref a), some (.int (u : Nat)), some (.ref f), some (.ref cv), some (.ref cf), some (.int (fr.2 : Nat)), some (.ref cs), some (.int e.2.1), some (.int (e.2.2 : Nat))] ∧ SameEx [J.pl, J.al] H1 H' ∧ JPairs K H' J (s.add u (fr.2, e.2.2) (foe ++ fr.1)), ?_, ?_⟩
      · walk_at "ga"
        refine l_mkT (by show 2 ≤ sizeLine; decide) fun c1 H2 e2 hc1 hm2 => ?_
        have o2 := (e1.trans e2) _ _ hJ.obj
        walk_at "ga"
        refine l_fldA ?_
        walk_at "ga"
        refine l_Jpairs D o2 ?_
        have hnew : TD K H2 (.ref c1) (encP (fr.2, e.2.2)) := .tup (SqT.of hm2) (.two (.int _) (.int _))
        have hpl2 := e2 _ _ hpl1
        have hal2 := e2 _ _ hal1
        have hpd2 := tds_same e2 hpd1
        refine ⟨encP (fr.2, e.2.2), s.pairs.map encP, hnew.dp, dpl (SqL.of hpl2) hpd2, encP_shaped _, encPs_shaped _, ?_⟩
        walk_at "go"
        rw [any_enc encP_eqv]
        by_cases hin : (fr.2, e.2.2) ∈ s.pairs
        · refine l_iF (by simp [hin]) ?_
          walk_at "ga"
          refine ⟨rfl, SameEx.of_same e2, ?_⟩
          unfold Sr.add
          rw [if_pos hin]
          exact (hP.same e1).same e2
        · refine l_iT (by simp [hin]) ?_
          have npa : J.pl ≠ J.al := by
            intro z
            simp only [List.nodup_cons, List.mem_cons, not_or, List.not_mem_nil] at hnd6
            exact hnd6.2.2.1.2.2.1 z
          walk_at "ga"
          refine l_fldA ?_
          walk_at "ga"
          refine l_Jpairs D o2 ?_
          refine ⟨tyv_list (SqL.of hpl2), ?_⟩
          walk_at "ga"
          refine l_mkT (by show 2 ≤ sizeLine; decide) fun c3 H3 e3 hc3 hm3 => ?_
          walk_at "ga"
          have hpl3 := e3 _ _ hpl2
          refine l_appN hpl3 (szl (by rw [hpd2.length, List.length_map]; omega)) fun H4 e4 hm4 => ?_
          have t4 : TupX K H3 H4 := e4.tup hpl3
          have na : a ≠ J.pl := ne_of o2 hpl2 (fun z => nomatch z)
          have o4 := e4 _ _ na (e3 _ _ o2)
          have hal4 := e4 _ _ npa.symm (e3 _ _ hal2)
          walk_at "ga"
          refine l_fldA ?_
          walk_at "ga"
          refine l_Jahead D o4 ?_
          refine ⟨tyv_list (SqL.of hal4), ?_⟩
          walk_at "ga"
          have e13 : Same H1 H3 := e2.trans e3
          have hf4 := t4 _ _ (sqt_same e13 (sqt_same e1 hf))
          have hcf4 := t4 _ _ (sqt_same e13 hcf1)
          refine l_catD hf4 hcf4 (sz (by rw [List.length_map, List.length_map]; omega)) fun c5 H5 e5 hc5 => ?_
          walk_at "ga"
          refine l_mkT (by show 2 ≤ sizeLine; decide) fun c6 H6 e6 hc6 hm6 => ?_
          walk_at "ga"
          have e46 := e5.trans e6
          have hal6 := e46 _ _ hal4
          refine l_appN hal6 (szl (by rw [had1.length, List.length_map]; omega)) fun H7 e7 hm7 => ?_
          have t7 : TupX K H6 H7 := e7.tup hal6
          have tt : TupX K H3 H7 := (t4.trans (TupX.same e46)).trans t7
          refine ⟨rfl, ?_, ?_⟩
          · exact ((SameEx.of_same e13).trans (SameEx.of_but e4 List.mem_cons_self)).trans ((SameEx.of_same e46).trans (SameEx.of_but e7 (List.mem_cons_of_mem _ List.mem_cons_self)))
          · unfold Sr.add
            rw [if_neg hin]
            refine ⟨⟨_, e7 _ _ npa (e46 _ _ hm4), ?_⟩, _, hm7, ?_⟩
            · show TDs K H7 _ ((s.pairs ++ [_]).map encP)
              rw [List.map_append]
              refine (tds_same e3 hpd2).mono tt |>.append (.one ?_)
              exact .tup (tt _ _ (SqT.of hm3)) (.two (.int _) (.int _))
            · show TDs K H7 _ ((s.ahead ++ [_]).map encA)
              rw [List.map_append]
              refine (tds_same e13 had1).mono tt |>.append (.one ?_)
              refine .tup (t7 _ _ (SqT.of hm6)) (.two (.int _) (td_encB ?_))
              rw [List.map_append]
              exact t7 _ _ (sqt_same e6 hc5)
      · rintro σ' H2 ⟨rfl, e2, hP2⟩
        obtain ⟨wp2, hpl2, hpd2⟩ := hP2.pr
        have hS : NTup H1 [J.pl, J.al] := (hP.same e1).nt
        have na1 : a ≠ J.pl := ne_of (e1 _ _ hJ.obj) hpl1 (fun z => nomatch z)
        have na2 : a ≠ J.al := ne_of (e1 _ _ hJ.obj) hal1 (fun z => nomatch z)
        have o2 := e2 _ _ (nin2 na1 na2) (e1 _ _ hJ.obj)
        walk_at "ga"
        refine l_fldA ?_
        walk_at "ga"
        refine l_Jpairs D o2 ?_
        refine ⟨tyv_list (SqL.of hpl2), ?_⟩
        walk_at "ga"
        refine l_mkT (by show 2 ≤ sizeLine; decide) fun c3 H3 e3 hc3 hm3 => ?_
        walk_at "ga"
        have hin : (fr.2, e.2.2) ∈ (s.add u (fr.2, e.2.2) (foe ++ fr.1)).pairs := by
          rw [Sr.add_pairs]
          exact mem_add1.mpr (.inr rfl)
        refine l_ixP (SqL.of (e3 _ _ hpl2)) (tds_same e3 hpd2) (.tup (SqT.of hm3) (.two (.int _) (.int _))) hin ?_
        walk_at "ga"
        refine l_mkT (by show 2 ≤ sizeLine; decide) fun c4 H4 e4 hc4 hm4 => ?_
        have e24 := e3.trans e4
        exact k2 c4 H4 ((SameEx.of_same e1).trans (e2.trans (SameEx.of_same e24))) (hP2.same e24) (.tup (SqT.of hm4) (.two (.int _) (.int _)))
    · refine l_iF (by
        cases q : PyData.eqv (encB e.1) (encB fr.1) with
        | false => rfl
        | true => exact absurd ((encB_eqv _ _).mp q) hm) ?_
      walk_at "ga"
      refine ⟨_, _, _, rfl, e1, fun y hy => ?_⟩
      rw [take_get he] at hy
      rcases List.mem_append.mp hy with hy | hy
      · exact hno y hy
      · rw [List.mem_singleton.mp hy]; exact decide_eq_false hm
  · obtain ⟨z6, z7, z8, rfl, e1, hno⟩ := h
    rw [hyl, List.take_length] at hno
    walk_at "ga"
    exact k0 (find_no hno) H' e1
end
section
variable {P : Program} {w : World} {K : PySem.W.Frag} {mg : Str → Option Value} {base : Heap}
def PlayRef (K : PySem.W.Frag) (H : Hp) (v : V) (p : Play) : Prop := ∃ a us, v = .ref a ∧ H a = some (.lst us) ∧ TDs K H us (p.map encB)
def SetsAt (K : PySem.W.Frag) (H : Hp) (l : Addr) (S : List Play) : Prop := ∃ ws, H l = some (.lst ws) ∧ Paired (PlayRef K H) ws S
theorem PlayRef.same {H H' : Hp} {v : V} {p : Play} (e : Same H H') (h : PlayRef K H v p) : PlayRef K H' v p := by
  obtain ⟨a, us, rfl, h1, h2⟩ := h
  exact ⟨a, us, rfl, e _ _ h1, tds_same e h2⟩
theorem SetsAt.same {H H' : Hp} {l : Addr} {S : List Play} (e : Same H H') (h : SetsAt K H l S) : SetsAt K H' l S := by
  obtain ⟨gs, h1, h2⟩ := h
  exact ⟨gs, e _ _ h1, Paired.mapP h2 fun _ _ z => z.same e⟩
/-- the same, each row apart from some lists -/
def GraphN (K : PySem.W.Frag) (H : Hp) (S : List Addr) (g : Addr) (G : Gr) : Prop := ∃ gs, H g = some (.lst gs) ∧ Paired (fun v es => EdgesAt K H v es ∧ ∀ a, v = .ref a → a ∉ S) gs G
def SetsN (K : PySem.W.Frag) (H : Hp) (S : List Addr) (g : Addr) (G : List Play) : Prop := ∃ gs, H g = some (.lst gs) ∧ Paired (fun v es => PlayRef K H v es ∧ ∀ a, v = .ref a → a ∉ S) gs G
theorem GraphN.at {H : Hp} {S : List Addr} {g : Addr} {G : Gr} (h : GraphN K H S g G) : GraphAt K H g G := by
  obtain ⟨gs, h1, h2⟩ := h
  exact ⟨gs, h1, Paired.mapP h2 fun _ _ z => z.1⟩
theorem SetsN.at {H : Hp} {S : List Addr} {g : Addr} {G : List Play} (h : SetsN K H S g G) : SetsAt K H g G := by
  obtain ⟨gs, h1, h2⟩ := h
  exact ⟨gs, h1, Paired.mapP h2 fun _ _ z => z.1⟩
theorem GraphN.ex {H H' : Hp} {S T : List Addr} {g : Addr} {G : Gr} (e : SameEx T H H') (hS : NTup H T) (hT : ∀ x, x ∉ S → (∃ o, H x = some o) → x ∉ T) (hg : g ∉ T) (h : GraphN K H S g G) : GraphN K H' S g G := by
  obtain ⟨gs, h1, h2⟩ := h
  refine ⟨gs, e _ _ hg h1, Paired.mapP h2 fun v es z => ?_⟩
  obtain ⟨⟨a, us, rfl, q1, q2⟩, z2⟩ := z
  exact ⟨⟨a, us, rfl, e _ _ (hT a (z2 a rfl) ⟨_, q1⟩) q1, q2.mono (e.tup hS)⟩, z2⟩
theorem SetsN.ex {H H' : Hp} {S T : List Addr} {g : Addr} {G : List Play} (e : SameEx T H H') (hS : NTup H T) (hT : ∀ x, x ∉ S → (∃ o, H x = some o) → x ∉ T) (hg : g ∉ T) (h : SetsN K H S g G) : SetsN K H' S g G := by
  obtain ⟨gs, h1, h2⟩ := h
  refine ⟨gs, e _ _ hg h1, Paired.mapP h2 fun v es z => ?_⟩
  obtain ⟨⟨a, us, rfl, q1, q2⟩, z2⟩ := z
  exact ⟨⟨a, us, rfl, e _ _ (hT a (z2 a rfl) ⟨_, q1⟩) q1, q2.mono (e.tup hS)⟩, z2⟩
theorem GraphN.same {H H' : Hp} {S : List Addr} {g : Addr} {G : Gr} (e : Same H H') (h : GraphN K H S g G) : GraphN K H' S g G := GraphN.ex (T := []) (SameEx.of_same e) NTup.nil (fun _ _ _ z => nomatch z) (fun z => nomatch z) h
theorem SetsN.same {H H' : Hp} {S : List Addr} {g : Addr} {G : List Play} (e : Same H H') (h : SetsN K H S g G) : SetsN K H' S g G := SetsN.ex (T := []) (SameEx.of_same e) NTup.nil (fun _ _ _ z => nomatch z) (fun z => nomatch z) h
def JA.S (J : JA) : List Addr := [J.pl, J.gl, J.sl, J.al]
theorem SameBut.free {l x : Addr} {H H' : Hp} (e : SameBut l H H') (n : x ≠ l) (h : H' x = none) : H x = none := by
  cases q : H x with
  | none => rfl
  | some o => rw [e _ _ n q] at h; cases h
theorem none4 {H : Hp} {a b c d : Addr} (h1 : H a = none) (h2 : H b = none) (h3 : H c = none) (h4 : H d = none) : ∀ l ∈ [a, b, c, d], H l = none := by
  intro l h
  rcases List.mem_cons.mp h with h | h
  · rw [h]; exact h1
  rcases List.mem_cons.mp h with h | h
  · rw [h]; exact h2
  rcases List.mem_cons.mp h with h | h
  · rw [h]; exact h3
  rw [List.mem_singleton.mp h]; exact h4
/-- all of a judge -/
structure JAt (K : PySem.W.Frag) (H : Hp) (a : Addr) (J : JA) (b : Book) (M : Mach) (r : Res) : Prop where
  fx : JFix K H a J b M
  pr : JPairs K H J r.1
  gr : GraphN K H J.S J.gl r.2.1
  st : SetsN K H J.S J.sl r.2.2
theorem JAt.same {H H' : Hp} {a : Addr} {J : JA} {b : Book} {M : Mach} {r : Res} (e : Same H H') (h : JAt K H a J b M r) : JAt K H' a J b M r := ⟨h.fx.same e, h.pr.same e, h.gr.same e, h.st.same e⟩
def spJInit (K : PySem.W.Frag) : Sp := fun vs H Q _ => ∃ (a dx : Addr) (v u : V) (b : Book) (M : Mach), vs = [.ref a, v, u] ∧ H a = some (.ins (He.ga K "Judge") dx []) ∧ TD K H v b.enc ∧ b.Ok ∧ TD K H u (encMach M) ∧
  ∀ J H', SameBut a H H' → (∀ l ∈ JA.S J, H l = none) → JAt K H' a J b M (sr0, [], []) → Q .non H'
theorem nd6 {a b c d e f : Addr} (h1 : a ≠ b) (h2 : a ≠ c) (h3 : a ≠ d) (h4 : a ≠ e) (h5 : a ≠ f) (h6 : b ≠ c) (h7 : b ≠ d) (h8 : b ≠ e) (h9 : b ≠ f) (h10 : c ≠ d) (h11 : c ≠ e) (h12 : c ≠ f) (h13 : d ≠ e) (h14 : d ≠ f) (h15 : e ≠ f) : [a, b, c, d, e, f].Nodup := by
  simp only [List.nodup_cons, List.mem_cons, not_or, List.not_mem_nil]
  simp [h1, h2, h3, h4, h5, h6, h7, h8, h9, h10, h11, h12, h13, h14, h15]
theorem sc_Judge_init : FnScope ["self", "book", "machine"] ["self", "book", "machine"] (defScope s_Judge_init) := ⟨rfl, rfl, rfl, by decide +kernel, rfl, by decide +kernel, by decide +kernel⟩
theorem ok_Judge_init (D : Hd K mg) : OkC P w K mg base "Judge" ["self", "book", "machine"] 21 (spJInit K) := by
  have G_game_of := ok_game_of (P := P) (w := w) (base := base) D
  have G_settings_of := ok_settings_of (P := P) (w := w) (base := base) D
  obtain ⟨fd, F⟩ := F_Judge_init D
  refine ⟨g_Judge D, mk_Judge D, fd, F.ok sc_Judge_init (fun vs H Q E h => ?_) (fun cdv A outer sS H vs Q E hr h => ?_), F.bindsN fun _ _ _ _ _ _ us hl => match us, hl with | [_, _, _], _ => rfl⟩
  · obtain ⟨a, dx, v, u, b, M, rfl, _⟩ := h
    rfl
  obtain ⟨a, dx, v, u, b, M, rfl, ha, hv, hb, hu, k⟩ := h
  have hf2 := hb.foe2
  refine ⟨_, (PSs.nox (pss_cons (ps_fldK K (pv 0) (pe_cl G_game_of hr (pa_cons (pv 1) pa_nil)))
      (pss_cons (ps_fldK K (pv 0) (pv 2))
      (pss_cons (ps_fldK K (pv 0) (pe_cl G_settings_of hr (pa_cons (pe_callB (cl_lenK K) (by rfl) (g_len D) (by decide +kernel) (pa_cons (pe_ix (ix_tupK K) (pv 1) pe_int (fun _ _ => rfl)) pa_nil)) pa_nil)))
      (pss_cons (ps_fldK K (pv 0) (pe_lst (pa_cons (pe_tup (pa_cons pe_int (pa_cons pe_int pa_nil))) pa_nil)))
      (pss_cons (ps_fldK K (pv 0) (pe_lst pa_nil))
      (pss_cons (ps_fldK K (pv 0) (pe_lst pa_nil))
      (pss_one (ps_fldK K (pv 0) (pe_lst (pa_cons pe_non pa_nil))))))))))), ?_⟩
  walk_at "ga"
  refine l_sfld ?_
  walk_at "ga"
  refine ⟨v, b, rfl, hv, hb, fun nl wn H1 e1 hn1 hm1 hw1 => ?_⟩
  walk_at "ga"
  have a1 := e1 _ _ ha
  have nnl : nl ≠ a := (ne_of_none ha hn1).symm
  refine l_put a1 (cl_Judge D) (na_Judge_nodes D) (by show 0 < 1000; decide) fun H2 e2 t2 a2 => ?_
  have nl2 := e2 _ _ nnl hm1
  have wn2 := hw1.mono t2
  have hu2 := (td_same e1 hu).mono t2
  have hv2 := (td_same e1 hv).mono t2
  dsimp only
  walk_at "ga"
  refine l_sfld ?_
  walk_at "ga"
  refine l_put a2 (cl_Judge D) (na_Judge_machine D) (by show 1 < 1000; decide) fun H3 e3 t3 a3 => ?_
  have nl3 := e3 _ _ nnl nl2
  have wn3 := wn2.mono t3
  have hu3 := hu2.mono t3
  have hv3 := hv2.mono t3
  obtain ⟨c, x1, x2, x3, x4, x5, rfl, hT, g1, _⟩ := hv3.t5
  obtain ⟨c1, y1, rfl, hT1, hs1⟩ := g1.tup_inv
  cases hs1.strs_inv
  dsimp only
  walk_at "ga"
  refine l_sfld ?_
  walk_at "ga"
  rw [List.length_map]
  refine ⟨b.foe.length, rfl, by omega, fun ol wo H4 e4 ol0 ol4 wo4 => ?_⟩
  walk_at "ga"
  have nol : ol ≠ a := (ne_of_none a3 ol0).symm
  have d1 : nl ≠ ol := ne_of_none nl3 ol0
  refine l_put (e4 _ _ a3) (cl_Judge D) (na_Judge_order D) (by show 2 < 1000; decide) fun H5 e5 t5 a5 => ?_
  have nl5 := e5 _ _ nnl (e4 _ _ nl3)
  have wn5 := (tds_same e4 wn3).mono t5
  have hu5 := (td_same e4 hu3).mono t5
  have ol5 := e5 _ _ nol ol4
  have wo5 := wo4.mono t5
  dsimp only
  walk_at "ga"
  refine l_sfld ?_
  walk_at "ga"
  refine l_mkT (by show 2 ≤ sizeLine; decide) fun c6 H6 e6 hc6 hm6 => ?_
  walk_at "ga"
  refine l_mkL (by show 1 ≤ sizeLine; decide) fun pl H7 e7 pl0 pl7 => ?_
  walk_at "ga"
  have npl : pl ≠ a := (ne_of_none (e6 _ _ a5) pl0).symm
  have d2 : nl ≠ pl := ne_of_none (e6 _ _ nl5) pl0
  have d3 : ol ≠ pl := ne_of_none (e6 _ _ ol5) pl0
  have e67 := e6.trans e7
  refine l_put (e67 _ _ a5) (cl_Judge D) (na_Judge_pairs D) (by show 3 < 1000; decide) fun H8 e8 t8 a8 => ?_
  have nl8 := e8 _ _ nnl (e67 _ _ nl5)
  have wn8 := (tds_same e67 wn5).mono t8
  have hu8 := (td_same e67 hu5).mono t8
  have ol8 := e8 _ _ nol (e67 _ _ ol5)
  have wo8 := (tds_same e67 wo5).mono t8
  have pl8 := e8 _ _ npl pl7
  have c68 := t8 _ _ (sqt_same e7 (SqT.of hm6))
  dsimp only
  walk_at "ga"
  refine l_sfld ?_
  walk_at "ga"
  refine l_mkL0 fun gl H9 e9 gl0 gl9 => ?_
  walk_at "ga"
  have ngl : gl ≠ a := (ne_of_none a8 gl0).symm
  have d4 : nl ≠ gl := ne_of_none nl8 gl0
  have d5 : ol ≠ gl := ne_of_none ol8 gl0
  have d6 : pl ≠ gl := ne_of_none pl8 gl0
  refine l_put (e9 _ _ a8) (cl_Judge D) (na_Judge_graph D) (by show 4 < 1000; decide) fun H10 e10 t10 a10 => ?_
  have nl10 := e10 _ _ nnl (e9 _ _ nl8)
  have wn10 := (tds_same e9 wn8).mono t10
  have hu10 := (td_same e9 hu8).mono t10
  have ol10 := e10 _ _ nol (e9 _ _ ol8)
  have wo10 := (tds_same e9 wo8).mono t10
  have pl10 := e10 _ _ npl (e9 _ _ pl8)
  have c610 := t10 _ _ (sqt_same e9 c68)
  have gl10 := e10 _ _ ngl gl9
  dsimp only
  walk_at "ga"
  refine l_sfld ?_
  walk_at "ga"
  refine l_mkL0 fun sl H11 e11 sl0 sl11 => ?_
  walk_at "ga"
  have nsl : sl ≠ a := (ne_of_none a10 sl0).symm
  have d7 : nl ≠ sl := ne_of_none nl10 sl0
  have d8 : ol ≠ sl := ne_of_none ol10 sl0
  have d9 : pl ≠ sl := ne_of_none pl10 sl0
  have d10 : gl ≠ sl := ne_of_none gl10 sl0
  refine l_put (e11 _ _ a10) (cl_Judge D) (na_Judge_sets D) (by show 5 < 1000; decide) fun H12 e12 t12 a12 => ?_
  have nl12 := e12 _ _ nnl (e11 _ _ nl10)
  have wn12 := (tds_same e11 wn10).mono t12
  have hu12 := (td_same e11 hu10).mono t12
  have ol12 := e12 _ _ nol (e11 _ _ ol10)
  have wo12 := (tds_same e11 wo10).mono t12
  have pl12 := e12 _ _ npl (e11 _ _ pl10)
  have c612 := t12 _ _ (sqt_same e11 c610)
  have gl12 := e12 _ _ ngl (e11 _ _ gl10)
  have sl12 := e12 _ _ nsl sl11
  dsimp only
  walk_at "ga"
  refine l_sfld ?_
  walk_at "ga"
  refine l_mkL (by show 1 ≤ sizeLine; decide) fun al H13 e13 al0 al13 => ?_
  walk_at "ga"
  have nal : al ≠ a := (ne_of_none a12 al0).symm
  have d11 : nl ≠ al := ne_of_none nl12 al0
  have d12 : ol ≠ al := ne_of_none ol12 al0
  have d13 : pl ≠ al := ne_of_none pl12 al0
  have d14 : gl ≠ al := ne_of_none gl12 al0
  have d15 : sl ≠ al := ne_of_none sl12 al0
  refine l_put (e13 _ _ a12) (cl_Judge D) (na_Judge_ahead D) (by show 6 < 1000; decide) fun H14 e14 t14 a14 => ?_
  have b6 := ((((SameBut.of_same e1).trans e2).trans e3).trans (SameBut.of_same e4)).trans (e5.trans (SameBut.of_same e6))
  have b8 := (b6.trans (SameBut.of_same e7)).trans e8
  have b10 := (b8.trans (SameBut.of_same e9)).trans e10
  have b12 := (b10.trans (SameBut.of_same e11)).trans e12
  refine k ⟨dx, nl, u, ol, pl, gl, sl, al⟩ H14 ((b12.trans (SameBut.of_same e13)).trans e14) (none4 (b6.free npl pl0) (b8.free ngl gl0) (b10.free nsl sl0) (b12.free nal al0)) ⟨⟨a14, ⟨wn, e14 _ _ nnl (e13 _ _ nl12), (tds_same e13 wn12).mono t14⟩, (td_same e13 hu12).mono t14, ⟨wo, e14 _ _ nol (e13 _ _ ol12), (tds_same e13 wo12).mono t14⟩,
      nd6 d1 d2 d4 d7 d11 d3 d5 d8 d12 d6 d9 d13 d10 d14 d15⟩, ⟨⟨_, e14 _ _ npl (e13 _ _ pl12), .one (.tup (t14 _ _ (sqt_same e13 c612)) (.two (.int _) (.int _)))⟩, _, e14 _ _ nal al13, .one .non⟩,
      ⟨[], e14 _ _ ngl (e13 _ _ gl12), .nil⟩, ⟨[], e14 _ _ nsl (e13 _ _ sl12), .nil⟩⟩
/-! ### way -/
theorem TDs.reverse {H : Hp} : ∀ {vs : List V} {ds : List PyData}, TDs K H vs ds → TDs K H vs.reverse ds.reverse
  | _, _, .nil => .nil
  | _, _, .cons h r => by
    rw [List.reverse_cons, List.reverse_cons]
    exact (TDs.reverse r).append (.one h)
theorem l_revL {σ : L2.St} {H : Hp} {Q : VK} {te : TE} (q : te σ H fun x H1 => ∃ a xs, x = .ref a ∧ SqL K H1 a xs ∧ ∀ p, H1 p = none → Q (.ref p) (upd H1 p (.lst xs.reverse))) : tRevL K te σ H Q := q
def spWay (K : PySem.W.Frag) : Sp := fun vs H Q _ => ∃ (a : Addr) (J : JA) (b : Book) (M : Mach) (s : Sr) (u : Nat) (p : Play), vs = [.ref a, .int (u : Nat)] ∧ JFix K H a J b M ∧ JPairs K H J s ∧ SrOk b M s ∧ b.Ok ∧ M.length ≤ 5 ∧ s.plays[u]? = some p ∧ NewL K (p.map encB) H Q
theorem sc_Judge_way : FnScope ["self", "at", "made"] ["self", "at"] (defScope s_Judge_way) := ⟨rfl, rfl, rfl, by decide +kernel, rfl, by decide +kernel, by decide +kernel⟩
theorem ok_Judge_way (D : Hd K mg) : OkM P w K mg base "Judge" "way" ["self", "at"] 1 (spWay K) := by
  obtain ⟨fd, F⟩ := F_Judge_way D
  refine ⟨cl_Judge D, mt_Judge_way D, fd, F.ok sc_Judge_way (fun vs H Q E h => ?_) (fun cdv A outer sS H vs Q E hr h => ?_), F.bindsN fun _ _ _ _ _ _ us hl => match us, hl with | [_, _], _ => rfl⟩
  · obtain ⟨a, J, b, M, s, u, p, rfl, _⟩ := h
    rfl
  obtain ⟨a, J, b, M, s, u, p, rfl, hJ, hP, hs, hb, hM5, hp, k⟩ := h
  obtain ⟨wa, hal, had⟩ := hP.ah
  have hlen := hs.len hb hM5
  have l1 := hs.l1
  have hu : u < s.pairs.length := by have := (List.getElem?_eq_some_iff.mp hp).1; omega
  refine ⟨_, (PSs.nox (pss_cons (ps_set (i := 2) sc_Judge_way.nd rfl (Or.inl rfl) (pe_lst pa_nil))
      (pss_cons (ps_while PassesOwn.never (pt_cmpR op_isnt0 (pe_ix (ix_listK K) (pe_fldK K (pv 0)) (pv 1) (fun _ _ => rfl)) pe_non (nomark _)) (pss_cons (ps_expr (pe_bmK K PySem.F.plainAttrs_list PySem.F.slot_list_append PySem.F.type_list_append mt_append (pv 2) (pa_cons (pe_ix (ix_tupK K) (pe_ix (ix_listK K) (pe_fldK K (pv 0)) (pv 1) (fun _ _ => rfl)) pe_int (fun _ _ => rfl)) pa_nil)))
      (pss_one (ps_set (i := 1) sc_Judge_way.nd rfl (Or.inl rfl) (pe_ix (ix_tupK K) (pe_ix (ix_listK K) (pe_fldK K (pv 0)) (pv 1) (fun _ _ => rfl)) pe_int (fun _ _ => rfl))))))
      (pss_one (ps_ret (pe_revLK K (pv 2))))))), ?_⟩
  walk_at "ga"
  refine l_mkL0 fun l H1 e1 hl hm1 => ?_
  walk_at "ga"
  refine whileN (u + 1) (fun i σ' H' => ∃ (j : Nat) (q made : Play), σ' = [some (.ref a), some (.int (j : Nat)), some (.ref l)] ∧ j < s.pairs.length ∧ j + i ≤ u ∧ s.plays[j]? = some q ∧ p = q ++ made.reverse ∧ made.length = i ∧ SameBut l H1 H' ∧ ∃ ws, H' l = some (.lst ws) ∧ TDs K H' ws (made.map encB))
    ⟨u, p, [], rfl, hu, by omega, hp, by rw [List.reverse_nil, List.append_nil], rfl, SameBut.refl l H1, [], hm1, .nil⟩ (fun i σ' H' h => ?_)
  obtain ⟨j, q, made, rfl, hj, hji, hq, hpq, hml, e2, ws, hm2, hw2⟩ := h
  have e02 : Same H H' := e2.same e1 hl
  have o2 := e02 _ _ hJ.obj
  have hal2 := e02 _ _ hal
  walk_at "ga"
  refine l_fldA ?_
  walk_at "ga"
  refine l_Jahead D o2 ?_
  walk_at "ga"
  by_cases h0 : j = 0
  · subst h0
    obtain ⟨x, hx, hxd⟩ := (tds_same e02 had).get (i := 0) (d := encA none) (by rw [List.getElem?_map, hs.a0]; rfl)
    cases hxd.non_inv
    refine l_ixL (SqL.of hal2) (atI_nat hx) ?_
    walk_at "ga"
    rw [hs.p0] at hq
    cases hq
    rw [List.nil_append] at hpq
    refine l_revL ?_
    walk_at "ga"
    refine ⟨l, ws, rfl, SqL.of hm2, fun l2 hl2 => ?_⟩
    refine k l2 _ _ (e02.trans (same_new hl2)) (e02.free hl2) upd_same ?_
    have hr := (hw2.mono (TupX.same (same_new hl2 (o := .lst ws.reverse)))).reverse
    rw [← List.map_reverse, ← hpq] at hr
    exact hr
  · obtain ⟨j2, st, q2, g1, g2, g3, g4, g5⟩ := hs.ah j (by omega) hj
    obtain ⟨x, hx, hxd⟩ := (tds_same e02 had).get (i := j) (d := encA (some (j2, st))) (by rw [List.getElem?_map, g2]; rfl)
    obtain ⟨c, u1, u2, rfl, hc, q1, q3⟩ := hxd.t2
    cases q1.int_inv
    refine l_ixL (SqL.of hal2) (atI_nat hx) ?_
    walk_at "ga"
    rw [hq] at g4
    cases g4
    refine wturn (by omega) ?_
    walk_at "ga"
    refine ⟨tyv_list (SqL.of hm2), ?_⟩
    walk_at "ga"
    refine l_fldA ?_
    walk_at "ga"
    refine l_Jahead D o2 ?_
    walk_at "ga"
    refine l_ixL (SqL.of hal2) (atI_nat hx) ?_
    walk_at "ga"
    refine l_appN hm2 (szl (by rw [hw2.length, List.length_map, hml]; omega)) fun H3 e3 hm3 => ?_
    have t3 := e3.tup (K := K) hm2
    have nal : J.al ≠ l := ne_of_none hal hl |> fun z => z
    have na : a ≠ l := ne_of_none hJ.obj hl
    walk_at "ga"
    refine l_fldA ?_
    walk_at "ga"
    refine l_Jahead D (e3 _ _ na o2) ?_
    walk_at "ga"
    refine l_ixL (SqL.of (e3 _ _ nal hal2)) (atI_nat hx) ?_
    have hc3 := t3 _ _ hc
    walk_at "ga"
    refine ⟨j2, q2, made ++ [st], rfl, by omega, by omega, g3, ?_, ?_, e2.trans e3, _, hm3, ?_⟩
    · rw [hpq, List.reverse_append, List.append_assoc]
      rfl
    · rw [List.length_append, hml]
      rfl
    · rw [List.map_append]
      exact (hw2.mono t3).append (.one (q3.mono t3))
end
theorem drop_get {α : Type} {l : List α} {i : Nat} {x : α} (h : l[i]? = some x) : l.drop i = x :: l.drop (i + 1) := by
  obtain ⟨h1, h2⟩ := List.getElem?_eq_some_iff.mp h
  rw [List.drop_eq_getElem_cons h1, h2]
section
variable {P : Program} {w : World} {K : PySem.W.Frag} {mg : Str → Option Value} {base : Heap}
theorem l_Jm {m : Str} {H : Hp} {R : Prop} {a : Addr} {J : JA} (h : H a = some (judgeO K J)) (hl : ([("nodes", .ref J.nl), ("machine", J.mv), ("order", .ref J.ol), ("pairs", .ref J.pl), ("graph", .ref J.gl), ("sets", .ref J.sl), ("ahead", .ref J.al)] : List (Str × V)).lookup m = none) (q : R) :
    ∃ a' dx fs, V.ref a = .ref a' ∧ H a' = some (.ins (He.ga K "Judge") dx fs) ∧ fs.lookup m = none ∧ R := ⟨a, _, _, rfl, h, hl, q⟩
theorem JFix.dist {H : Hp} {a : Addr} {J : JA} {b : Book} {M : Mach} (h : JFix K H a J b M) : J.nl ≠ J.pl ∧ J.nl ≠ J.gl ∧ J.nl ≠ J.sl ∧ J.nl ≠ J.al ∧ J.ol ≠ J.pl ∧ J.ol ≠ J.gl ∧ J.ol ≠ J.sl ∧ J.ol ≠ J.al ∧ J.pl ≠ J.gl ∧ J.pl ≠ J.sl ∧ J.pl ≠ J.al ∧ J.gl ≠ J.sl ∧ J.gl ≠ J.al ∧ J.sl ≠ J.al := by
  have h := h.nd
  simp only [List.nodup_cons, List.mem_cons, not_or, List.not_mem_nil, not_false_eq_true, and_true] at h
  obtain ⟨⟨_, h1, h2, h3, h4⟩, ⟨h5, h6, h7, h8⟩, ⟨h9, h10, h11⟩, ⟨h12, h13⟩, h14, _⟩ := h
  exact ⟨h1, h2, h3, h4, h5, h6, h7, h8, h9, h10, h11, h12, h13, h14⟩
theorem nin4 {a b c d x : Addr} (h1 : x ≠ a) (h2 : x ≠ b) (h3 : x ≠ c) (h4 : x ≠ d) : x ∉ [a, b, c, d] := by
  intro h
  rcases List.mem_cons.mp h with h | h
  · exact h1 h
  exact nin3 h2 h3 h4 h
theorem of_nin4 {a b c d x : Addr} (h : x ∉ [a, b, c, d]) : x ≠ a ∧ x ≠ b ∧ x ≠ c ∧ x ≠ d := by
  simp only [List.mem_cons, not_or, List.not_mem_nil] at h
  exact ⟨h.1, h.2.1, h.2.2.1, h.2.2.2.1⟩
theorem SrOk.play {b : Book} {M : Mach} {s : Sr} (h : SrOk b M s) : ∀ (n i : Nat) (p : Play), i < n → s.plays[i]? = some p → p.length ≤ i ∧ ∀ x ∈ p, x.length = b.names.length := by
  intro n
  induction n with
  | zero => intro i p hi; omega
  | succ n ih =>
    intro i p hi hp
    by_cases h0 : i = 0
    · subst h0
      rw [h.p0] at hp
      cases hp
      exact ⟨Nat.zero_le _, fun x hx => nomatch hx⟩
    · have hil : i < s.pairs.length := by have := (List.getElem?_eq_some_iff.mp hp).1; have := h.l1; omega
      obtain ⟨j, st, q, g1, g2, g3, g4, g5⟩ := h.ah i (by omega) hil
      obtain ⟨i1, i2⟩ := ih j q (by omega) g3
      rw [g4] at hp
      cases hp
      refine ⟨by rw [List.length_append]; show q.length + 1 ≤ i; omega, fun x hx => ?_⟩
      rcases List.mem_append.mp hx with hx | hx
      · exact i2 x hx
      · rw [List.mem_singleton.mp hx]; exact g5
theorem SameEx.dropN {S T : List Addr} {H H' : Hp} (h : ∀ x ∈ T, x ∈ S ∨ H x = none) (e : SameEx T H H') : SameEx S H H' := fun b o n q => e b o (fun z => by
  rcases h b z with z | z
  · exact n z
  · rw [z] at q; cases q) q
theorem GraphN.put {H H' : Hp} {S : List Addr} {g el : Addr} {G : Gr} {gs us : List V} {es : List (Int × Nat)} (h : GraphN K H S g G) (hg : H g = some (.lst gs)) (hS : g ∈ S) (e : SameBut g H H') (hg' : H' g = some (.lst (gs ++ [.ref el]))) (hel : H el = some (.lst us)) (hu : TDs K H us (es.map encE)) (ne : el ∉ S) :
    GraphN K H' S g (G ++ [es]) := by
  obtain ⟨gs2, h1, h2⟩ := h
  rw [hg] at h1
  cases h1
  have t : TupX K H H' := e.tup hg
  refine ⟨_, hg', Paired.snoc (Paired.mapP h2 fun v es z => ?_) ⟨⟨el, us, rfl, e _ _ (fun z => ne (z ▸ hS)) hel, hu.mono t⟩, fun a ha => by cases ha; exact ne⟩⟩
  obtain ⟨⟨a, us, rfl, q1, q2⟩, z2⟩ := z
  have na := z2 a rfl
  exact ⟨⟨a, us, rfl, e _ _ (fun z => na (z ▸ hS)) q1, q2.mono t⟩, z2⟩
theorem SetsN.put {H H' : Hp} {S : List Addr} {g el : Addr} {G : List Play} {gs us : List V} {es : Play} (h : SetsN K H S g G) (hg : H g = some (.lst gs)) (hS : g ∈ S) (e : SameBut g H H') (hg' : H' g = some (.lst (gs ++ [.ref el]))) (hel : H el = some (.lst us)) (hu : TDs K H us (es.map encB)) (ne : el ∉ S) :
    SetsN K H' S g (G ++ [es]) := by
  obtain ⟨gs2, h1, h2⟩ := h
  rw [hg] at h1
  cases h1
  have t : TupX K H H' := e.tup hg
  refine ⟨_, hg', Paired.snoc (Paired.mapP h2 fun v es z => ?_) ⟨⟨el, us, rfl, e _ _ (fun z => ne (z ▸ hS)) hel, hu.mono t⟩, fun a ha => by cases ha; exact ne⟩⟩
  obtain ⟨⟨a, us, rfl, q1, q2⟩, z2⟩ := z
  have na := z2 a rfl
  exact ⟨⟨a, us, rfl, e _ _ (fun z => na (z ▸ hS)) q1, q2.mono t⟩, z2⟩
def spGrow (K : PySem.W.Frag) : Sp := fun vs H Q _ => ∃ (a : Addr) (J : JA) (b : Book) (M : Mach), vs = [.ref a] ∧ JAt K H a J b M (sr0, [], []) ∧ b.Ok ∧ MOk b M ∧ M.length ≤ 5 ∧
  (∀ p, srRes b M = .inl p → ∀ l ws H', SameEx J.S H H' → H' l = some (.lst ws) → TDs K H' ws (p.map encB) → Q (.ref l) H') ∧
  (∀ r, srRes b M = .inr r → SrOk b M r.1 → r.1.pairs.length = r.2.1.length → r.2.1.length = r.2.2.length → ∀ H', SameEx J.S H H' → JAt K H' a J b M r → Q .non H')
theorem movesN_len {b : Book} (hb : b.Ok) (node : Nat) : (movesN b node).length ≤ 4 := by
  unfold movesN movesM
  rw [List.length_map, List.length_map]
  refine Nat.le_trans (List.length_filter_le _ _) ?_
  rw [settings_len]
  exact Nat.pow_le_pow_right (n := 2) (by decide) hb.foe2
theorem sc_Judge_grow : FnScope ["self", "at", "edges", "sets", "foe", "answers", "found", "friend"] ["self"] (defScope s_Judge_grow) := ⟨rfl, rfl, rfl, by decide +kernel, rfl, by decide +kernel, by decide +kernel⟩
theorem ok_Judge_grow (D : Hd K mg) : OkM P w K mg base "Judge" "grow" ["self"] 2 (spGrow K) := by
  have G_Judge_edge := ok_Judge_edge (P := P) (w := w) (base := base) D
  have G_Judge_way := ok_Judge_way (P := P) (w := w) (base := base) D
  obtain ⟨fd, F⟩ := F_Judge_grow D
  refine ⟨cl_Judge D, mt_Judge_grow D, fd, F.ok sc_Judge_grow (fun vs H Q E h => ?_) (fun cdv A outer sS H vs Q E hr h => ?_), F.bindsN fun _ _ _ _ _ _ us hl => match us, hl with | [_], _ => rfl⟩
  · obtain ⟨a, J, b, M, rfl, _⟩ := h
    rfl
  obtain ⟨a, J, b, M, rfl, hJ0, hb, hM, hM5, k0, k1⟩ := h
  have hr2 := hb.fr2
  have hf2 := hb.foe2
  have hf1 := hb.foe1
  refine ⟨_, (PSs.nox (pss_cons (ps_while PassesOwn.never (pt_cmpR op_lt (pe_callB (cl_lenK K) (by rfl) (g_len D) (by decide +kernel) (pa_cons (pe_fldK K (pv 0)) pa_nil)) (pe_callB (cl_lenK K) (by rfl) (g_len D) (by decide +kernel) (pa_cons (pe_fldK K (pv 0)) pa_nil)) (nomark _)) (pss_cons (ps_set (i := 1) sc_Judge_grow.nd rfl (Or.inl rfl) (pe_callB (cl_lenK K) (by rfl) (g_len D) (by decide +kernel) (pa_cons (pe_fldK K (pv 0)) pa_nil)))
      (pss_cons (ps_set (i := 2) sc_Judge_grow.nd rfl (Or.inl rfl) (pe_lst pa_nil))
      (pss_cons (ps_set (i := 3) sc_Judge_grow.nd rfl (Or.inl rfl) (pe_lst pa_nil))
      (pss_cons (ps_for PassesOwn.never rfl (pi_tupK K (pe_ix (ix_tupK K) (pe_ix (ix_listK K) (pe_fldK K (pv 0)) (pe_ix (ix_tupK K) (pe_ix (ix_listK K) (pe_fldK K (pv 0)) (pv 1) (fun _ _ => rfl)) pe_int (fun _ _ => rfl)) (fun _ _ => rfl)) pe_int (fun _ _ => rfl))) (pg_tupK K (n := 2) rfl (pgs_cons (pg_name (i := 4) sc_Judge_grow.nd rfl (Or.inl rfl)) (pgs_cons (pg_name (i := 5) sc_Judge_grow.nd rfl (Or.inl rfl)) pgs_nil))) (pss_cons (ps_set (i := 6) sc_Judge_grow.nd rfl (Or.inl rfl) (pe_mtK K (pv 0) G_Judge_edge hr (pa_cons (pv 1) (pa_cons (pv 4) (pa_cons (pv 5) pa_nil)))))
      (pss_cons (ps_set (i := 7) sc_Judge_grow.nd rfl (Or.inl rfl) (pe_ix (ix_tupK K) (pe_ix (ix_tupK K) (pe_ix (ix_tupK K) (pe_fldK K (pv 0)) (pe_ix (ix_tupK K) (pe_ix (ix_listK K) (pe_fldK K (pv 0)) (pv 1) (fun _ _ => rfl)) pe_int (fun _ _ => rfl)) (fun _ _ => rfl)) (pe_bmK K PySem.F.plainAttrs_list PySem.F.slot_list_index PySem.F.type_list_index (mt_ixDK K (hu65 hr)) (pe_fldK K (pv 0)) (pa_cons (pv 4) pa_nil)) (fun _ _ => rfl)) pe_int (fun _ _ => rfl)))
      (pss_cons (ps_if (pt_cmpR op_is0 (pv 6) pe_non (nomark _)) (pss_one (ps_ret (pe_op op_cat (pe_mtK K (pv 0) G_Judge_way hr (pa_cons (pv 1) pa_nil)) (pe_lst (pa_cons (pe_op (op_catAK K) (pv 4) (pv 7)) pa_nil))))) pss_nil)
      (pss_cons (ps_expr (pe_bmK K PySem.F.plainAttrs_list PySem.F.slot_list_append PySem.F.type_list_append mt_append (pv 2) (pa_cons (pv 6) pa_nil)))
      (pss_one (ps_expr (pe_bmK K PySem.F.plainAttrs_list PySem.F.slot_list_append PySem.F.type_list_append mt_append (pv 3) (pa_cons (pe_op (op_catAK K) (pv 4) (pv 7)) pa_nil)))))))))
      (pss_cons (ps_expr (pe_bmK K PySem.F.plainAttrs_list PySem.F.slot_list_append PySem.F.type_list_append mt_append (pe_fldK K (pv 0)) (pa_cons (pv 2) pa_nil)))
      (pss_one (ps_expr (pe_bmK K PySem.F.plainAttrs_list PySem.F.slot_list_append PySem.F.type_list_append mt_append (pe_fldK K (pv 0)) (pa_cons (pv 3) pa_nil))))))))))
      (pss_one (ps_ret pe_non)))), ?_⟩
  walk_at "ga"
  refine whileN 100 (fun i σ' H' => ∃ z1 z2 z3 z4 z5 z6 z7, σ' = [some (.ref a), z1, z2, z3, z4, z5, z6, z7] ∧ SameEx J.S H H' ∧ ∃ r : Res, JAt K H' a J b M r ∧ SrOk b M r.1 ∧ r.2.1.length = i ∧ r.2.2.length = i ∧ i ≤ r.1.pairs.length ∧ srRes b M = srRun b M (100 - i) r)
    ⟨_, _, _, _, _, _, _, rfl, SameEx.refl, _, hJ0, SrOk.init hM, rfl, rfl, Nat.zero_le _, rfl⟩ (fun i σ' H1 h => ?_)
  obtain ⟨z1, z2, z3, z4, z5, z6, z7, rfl, e1, r, hJ, hs, hg, hst, hi, hrun⟩ := h
  obtain ⟨s, G, S⟩ := r
  simp only at hJ hs hg hst hi hrun
  have hlen := hs.len hb hM5
  obtain ⟨gs, hgl, hgp⟩ := hJ.gr
  obtain ⟨ss, hsl, hsp⟩ := hJ.st
  obtain ⟨wp, hpl, hpd⟩ := hJ.pr.pr
  obtain ⟨wa, hal, had⟩ := hJ.pr.ah
  have hgsl : gs.length = i := by rw [hgp.length]; exact hg
  have hssl : ss.length = i := by rw [hsp.length]; exact hst
  have hwpl : wp.length = s.pairs.length := by rw [hpd.length, List.length_map]
  have o1 := hJ.fx.obj
  walk_at "ga"
  refine l_fldA ?_
  walk_at "ga"
  refine l_Jgraph D o1 ?_
  walk_at "ga"
  refine l_fldA ?_
  walk_at "ga"
  refine l_Jpairs D o1 ?_
  walk_at "ga"
  rw [hgsl, hwpl]
  refine l_i2 (fun e => ?_) (fun e => ?_)
  · have hlt : i < s.pairs.length := by have := of_decide_eq_true e; omega
    refine wturn (by omega) ?_
    walk_at "ga"
    refine l_fldA ?_
    walk_at "ga"
    refine l_Jgraph D o1 ?_
    walk_at "ga"
    rw [hgsl]
    walk_at "ga"
    refine l_mkL0 fun el H2 e2 el0 hel => ?_
    walk_at "ga"
    refine l_mkL0 fun st H3 e3 st0 hst3 => ?_
    have e13 := e2.trans e3
    have hJ3 := hJ.same e13
    have hel3 := e3 _ _ hel
    have nes : el ≠ st := ne_of_none hel st0
    have hpl1 := hpl
    have neS : ∀ {x : Addr} {o : HO}, H1 x = some o → x ≠ el ∧ x ≠ st := fun q => ⟨ne_of_none q el0, ne_of_none (e2 _ _ q) st0⟩
    obtain ⟨p, hp⟩ : ∃ p, s.pairs[i]? = some p := ⟨_, List.getElem?_eq_getElem hlt⟩
    have hpm := hs.rng p (List.mem_of_getElem? hp)
    have hpg : s.pairs.getD i (0, 0) = p := by rw [List.getD_eq_getElem?_getD, hp]; rfl
    obtain ⟨up, hup, hupd⟩ := hpd.get (i := i) (d := encP p) (by rw [List.getElem?_map, hp]; rfl)
    obtain ⟨cp, v1, v2, rfl, hTp, q3, q4⟩ := hupd.t2
    cases q3.int_inv
    cases q4.int_inv
    obtain ⟨wn, hnl, hnd⟩ := hJ.fx.nodes
    have hng : (rowM b)[p.2]? = some ((rowM b)[p.2]'hpm.2) := List.getElem?_eq_getElem hpm.2
    obtain ⟨un, hun, hund⟩ := hnd.get (i := p.2) (d := nodeD b (rowM b) ((rowM b)[p.2]'hpm.2)) (by rw [List.getElem?_map, hng]; rfl)
    rw [nodeD_eq hng] at hund
    obtain ⟨cn, n1, n2, rfl, hTn, _, q6⟩ := hund.t2
    obtain ⟨cmv, ymv, rfl, hTmv, hsmv⟩ := q6.tup_inv
    have hyl : ymv.length = (movesN b p.2).length := by rw [hsmv.length, List.length_map]
    have hml4 := movesN_len hb p.2
    have hTp3 := sqt_same e13 hTp
    have hTn3 := sqt_same e13 hTn
    walk_at "ga"
    refine l_fldA ?_
    walk_at "ga"
    refine l_Jnodes D (e13 _ _ o1) ?_
    walk_at "ga"
    refine l_fldA ?_
    walk_at "ga"
    refine l_Jpairs D (e13 _ _ o1) ?_
    walk_at "ga"
    refine l_ixL (SqL.of (e13 _ _ hpl)) (atI_nat hup) ?_
    walk_at "ga"
    refine l_ixL (SqL.of (e13 _ _ hnl)) (atI_nat hun) ?_
    walk_at "ga"
    have hpl' := hJ.fx.dist
    obtain ⟨d1, d2, d3, d4, d5, d6, d7, d8, d9, d10, d11, d12, d13, d14⟩ := hpl'
    have e14 : ∀ {H' : Hp}, SameEx [J.pl, J.al, el, st] H3 H' → SameEx J.S H1 H' := fun e => SameEx.dropN (T := [J.pl, J.al, el, st]) (fun x hx => by
      rcases List.mem_cons.mp hx with rfl | hx
      · exact .inl List.mem_cons_self
      rcases List.mem_cons.mp hx with rfl | hx
      · exact .inl (List.mem_cons_of_mem _ in3)
      rcases List.mem_cons.mp hx with rfl | hx
      · exact .inr el0
      · rw [List.mem_singleton.mp hx]
        exact .inr (e2.free st0)) ((SameEx.of_same e13).trans e)
    have npl := neS hpl
    have nal := neS hal
    have ngl := neS hgl
    have nsl := neS hsl
    have hTT : NTup H3 [J.pl, J.al, el, st] := NTup.cons (nt_lst (e13 _ _ hpl)) (NTup.cons (nt_lst (e13 _ _ hal)) (NTup.cons (nt_lst hel3) (NTup.cons (nt_lst hst3) NTup.nil)))
    refine forT (sqt_same e13 hTmv) (fun q σ' H' => ∃ z4 z5 z6 z7, σ' = [some (.ref a), some (.int (i : Nat)), some (.ref el), some (.ref st), z4, z5, z6, z7] ∧ SameEx [J.pl, J.al, el, st] H3 H' ∧ ∃ acc : Acc, JFix K H' a J b M ∧ JPairs K H' J acc.1 ∧ SrOk b M acc.1 ∧ acc.1.pairs[i]? = some p ∧
        (∃ us, H' el = some (.lst us) ∧ TDs K H' us (acc.2.1.map encE)) ∧ (∃ us, H' st = some (.lst us) ∧ TDs K H' us (acc.2.2.map encB)) ∧ acc.2.1.length = q ∧ acc.2.2.length = q ∧ srFold b M i (movesN b p.2) (s, [], []) = srFold b M i ((movesN b p.2).drop q) acc)
      ⟨_, _, _, _, rfl, SameEx.refl, (s, [], []), hJ3.fx, hJ3.pr, hs, hp, ⟨[], hel3, .nil⟩, ⟨[], hst3, .nil⟩, rfl, rfl, by rw [List.drop_zero]⟩ (fun q σ' H' _ h => ?_) (fun q x σ' H4 hx h => ?_) (fun σ' H4 h => ?_)
    · obtain ⟨_, _, _, _, _, e4, _⟩ := h
      exact e4.tup hTT _ _ (sqt_same e13 hTmv)
    · obtain ⟨y4, y5, y6, y7, rfl, e4, acc, hF, hP4, hs4, hp4, ⟨us, hel4, hud⟩, ⟨us2, hst4, hud2⟩, hl1, hl2, hfold⟩ := h
      have t4 : TupX K H3 H4 := e4.tup hTT
      obtain ⟨d, hd1, hx2⟩ := hsmv.at hx
      rw [List.getElem?_map] at hd1
      obtain ⟨mv, hmv, rfl⟩ := Option.map_eq_some_iff.mp hd1
      have hmvm := List.mem_of_getElem? hmv
      obtain ⟨hmv1, hmv2⟩ := movesN_ok hb hpm.2 hmvm
      have hq4 : q < 4 := by have := (List.getElem?_eq_some_iff.mp hmv).1; omega
      obtain ⟨cx, f1, f2, rfl, hTx, hf1, hf2'⟩ := ((td_same e13 hx2).mono t4).t2
      obtain ⟨cf, rfl, hcf⟩ := hf1.encB_inv
      obtain ⟨cas, _, rfl, _, _⟩ := id hf2'.tup_inv
      have hu4 : i < acc.1.pairs.length := (List.getElem?_eq_some_iff.mp hp4).1
      have o4 := hF.obj
      obtain ⟨acs, aes, aps⟩ := acc
      simp only at hF hP4 hs4 hp4 hud hud2 hl1 hl2 hfold hu4
      -- the machine's answer
      obtain ⟨cm, ym, hcm, hTm, hsm⟩ := id hF.mach.tup_inv
      obtain ⟨row, r1, r2, r3, r4⟩ := stepM_mem hM hpm.1 hmv1
      have hfr : friendOf b M acs i mv.1 = stepM b M p.1 mv.1 := by
        unfold friendOf
        rw [List.getD_eq_getElem?_getD, hp4]
        rfl
      have hstp : srStep b M i mv (acs, aes, aps) = match mv.2.find? fun x => decide (x.1 = (friendOf b M acs i mv.1).1) with
        | none => none
        | some x => some (acs.add i ((friendOf b M acs i mv.1).2, x.2.2) (mv.1 ++ (friendOf b M acs i mv.1).1), aes ++ [(x.2.1, ixOf ((friendOf b M acs i mv.1).2, x.2.2) (acs.add i ((friendOf b M acs i mv.1).2, x.2.2) (mv.1 ++ (friendOf b M acs i mv.1).1)).pairs)], aps ++ [mv.1 ++ (friendOf b M acs i mv.1).1]) := rfl
      obtain ⟨u1, p1, p2⟩ := hsm.get (i := p.1) (d := encStand row) (by rw [List.getElem?_map, r1]; rfl)
      obtain ⟨ca, ya, rfl, hTa, hsa⟩ := p2.tup_inv
      obtain ⟨u2, p3, p4⟩ := hsa.get (i := ixOf mv.1 (settings b.foe.length)) (d := encPair (stepM b M p.1 mv.1)) (by rw [List.getElem?_map, r2]; rfl)
      obtain ⟨cb, w1, w2, rfl, hTb, m1, m2⟩ := p4.t2
      obtain ⟨cfr, rfl, hcfr⟩ := m1.encB_inv
      obtain ⟨wo, hol, hod⟩ := hF.ord
      have hbl : (mv.1 ++ (stepM b M p.1 mv.1).1).length = b.names.length := by unfold Book.names; rw [List.length_append, List.length_append, hmv1, r3]
      -- how the friend's setting is read
      have rd : ∀ {H5 : Hp} {s5 : Sr} {y6 : Option V} {Qf : VK}, JFix K H5 a J b M → JPairs K H5 J s5 → s5.pairs[i]? = some p → (J.mv = .ref cm) → SqT K H5 cm ym → SqT K H5 ca ya → SqT K H5 cb [.ref cfr, w2] → SqT K H5 cf (mv.1.map V.bl) → Qf (.ref cfr) H5 →
          tOp (rIxT K) (tOp (rIxT K) (tOp (rIxT K) (tFld K (tVar 0) "machine") (tOp (rIxT K) (tOp (rIxL K) (tFld K (tVar 0) "pairs") (tVar 1)) (tC (.int 0)))) (tBM K "list" (rIndexD K) (tFld K (tVar 0) "order") (tCons (tVar 4) tNil))) (tC (.int 0))
            ([some (.ref a), some (.int (i : Nat)), some (.ref el), some (.ref st), some (.ref cf), some (.ref cas), y6, y7] : L2.St) H5 Qf := by
        intro H5 s5 y6 Qf j1 j2 j3 j4 j5 j6 j7 j8 kq
        obtain ⟨wp5, hpl5, hpd5⟩ := j2.pr
        obtain ⟨wo5, hol5, hod5⟩ := j1.ord
        obtain ⟨up5, hup5, hupd5⟩ := hpd5.get (i := i) (d := encP p) (by rw [List.getElem?_map, j3]; rfl)
        obtain ⟨cp5, v15, v25, rfl, hTp5, m3, m4⟩ := hupd5.t2
        cases m3.int_inv
        walk_at "ga"
        refine l_fldA ?_
        walk_at "ga"
        refine l_Jmach D j1.obj ?_
        walk_at "ga"
        refine l_fldA ?_
        walk_at "ga"
        refine l_Jpairs D j1.obj ?_
        walk_at "ga"
        refine l_ixL (SqL.of hpl5) (atI_nat hup5) ?_
        walk_at "ga"
        rw [j4]
        refine l_ixT j5 (atI_nat p1) ?_
        walk_at "ga"
        refine l_fldA ?_
        walk_at "ga"
        refine l_Jord D j1.obj ?_
        refine ⟨tyv_list (SqL.of hol5), ?_⟩
        walk_at "ga"
        refine l_ixB (SqL.of hol5) hod5 j8 (settings_all hmv1) ?_
        refine l_ixT j6 (atI_nat p3) ?_
        walk_at "ga"
        exact kq
      walk_at "ga"
      refine l_meth ?_
      walk_at "ga"
      refine l_Jm o4 (by rfl) ?_
      walk_at "ga"
      refine ⟨a, cf, .ref cas, J, b, M, acs, i, mv.1, mv.2, rfl, hF, hP4, hs4, hb, hM, hM5, hu4, hcf, hmv1, hf2', hmv2, fun hno H5 e5 => ?_, fun x hsome c5 H5 e5 hP5 hc5 => ?_⟩
      · have hJ5 := hF.same e5
        walk_at "ga"
        refine rd hJ5 (hP4.same e5) hp4 hcm (sqt_same e5 hTm) (sqt_same e5 hTa) (sqt_same e5 hTb) (sqt_same e5 hcf) ?_
        walk_at "ga"
        refine l_meth ?_
        walk_at "ga"
        refine l_Jm hJ5.obj (by rfl) ?_
        walk_at "ga"
        have hpl4 : acs.plays[i]? = some (acs.plays.getD i []) := by
          rw [List.getD_eq_getElem?_getD, List.getElem?_eq_getElem (by have := hs4.l1; omega)]
          rfl
        refine ⟨a, J, b, M, acs, i, _, rfl, hJ5, hP4.same e5, hs4, hb, hM5, hpl4, fun l6 ws6 H6 e6 hl6 hm6 hw6 => ?_⟩
        walk_at "ga"
        refine l_catD (sqt_same (e5.trans e6) hcf) (sqt_same (e5.trans e6) hcfr) (sz (by rw [List.length_map, List.length_map, hmv1, r3]; omega)) fun c7 H7 e7 hc7 => ?_
        walk_at "ga"
        refine l_mkL (by show 1 ≤ sizeLine; decide) fun l8 H8 e8 hl8 hm8 => ?_
        walk_at "ga"
        have hw6l : ws6.length ≤ 100 := by
          rw [hw6.length, List.length_map]
          have := (hs4.play (i + 1) i _ (by omega) hpl4).1
          omega
        refine l_catN ((e7.trans e8) _ _ hm6) hm8 (sz (by show ws6.length + 1 ≤ 1000000; omega)) fun l9 H9 e9 hl9 hm9 => ?_
        have e49 : Same H4 H9 := (e5.trans e6).trans ((e7.trans e8).trans e9)
        have hbrk : srRes b M = .inl (acs.plays.getD i [] ++ [mv.1 ++ (stepM b M p.1 mv.1).1]) := by
          rw [hrun, show 100 - i = (100 - i - 1) + 1 by omega]
          refine srRun_brk (by show G.length < s.pairs.length; omega) ?_
          show srFold b M G.length (movesN b (s.pairs.getD G.length (0, 0)).2) (s, [], []) = _
          rw [hg, hpg, hfold, drop_get hmv, srFold_none (by rw [hstp, hno])]
          show Sum.inl (acs.plays.getD i [] ++ [mv.1 ++ (friendOf b M acs i mv.1).1]) = _
          rw [hfr]
        refine k0 _ hbrk l9 _ H9 (e1.trans ((e14 e4).trans (SameEx.of_same e49))) hm9 ?_
        · rw [List.map_append]
          refine (tds_same ((e7.trans e8).trans e9) hw6).append (.one (td_encB ?_))
          rw [List.map_append]
          exact sqt_same (e8.trans e9) hc7
      · have hS4 : NTup H4 [J.pl, J.al] := hP4.nt
        obtain ⟨wp4, hpl4, hpd4⟩ := hP4.pr
        obtain ⟨wa4, hal4, had4⟩ := hP4.ah
        obtain ⟨wn4, hnl4, hnd4⟩ := hF.nodes
        have ha1 : a ≠ J.pl := ne_of o4 hpl4 (fun z => nomatch z)
        have ha2 : a ≠ J.al := ne_of o4 hal4 (fun z => nomatch z)
        have hF5 : JFix K H5 a J b M := hF.ex e5 hS4 (nin2 ha1 ha2) (nin2 d1 d4) (nin2 d5 d8)
        have t5 : TupX K H4 H5 := e5.tup hS4
        have el5 : H5 el = some (.lst us) := e5 _ _ (nin2 npl.1.symm nal.1.symm) hel4
        have st5 : H5 st = some (.lst us2) := e5 _ _ (nin2 npl.2.symm nal.2.symm) hst4
        rw [hfr] at hP5 hc5
        have hp5 : (acs.add i ((stepM b M p.1 mv.1).2, x.2.2) (mv.1 ++ (stepM b M p.1 mv.1).1)).pairs[i]? = some p := by
          obtain ⟨t, _, _, ht, _⟩ := acs.add_ext i ((stepM b M p.1 mv.1).2, x.2.2) (mv.1 ++ (stepM b M p.1 mv.1).1)
          rw [ht, List.getElem?_append_left hu4]
          exact hp4
        have hs5 := hs4.add (p := ((stepM b M p.1 mv.1).2, x.2.2)) (st := mv.1 ++ (stepM b M p.1 mv.1).1) hu4 ⟨r4, (hmv2 x (find_mem hsome).1).2⟩ hbl
        have hul : us.length = q := by rw [hud.length, List.length_map, hl1]
        have hul2 : us2.length = q := by rw [hud2.length, List.length_map, hl2]
        have hstp2 : srStep b M i mv (acs, aes, aps) = some (acs.add i ((stepM b M p.1 mv.1).2, x.2.2) (mv.1 ++ (stepM b M p.1 mv.1).1), aes ++ [(x.2.1, ixOf ((stepM b M p.1 mv.1).2, x.2.2) (acs.add i ((stepM b M p.1 mv.1).2, x.2.2) (mv.1 ++ (stepM b M p.1 mv.1).1)).pairs)], aps ++ [mv.1 ++ (stepM b M p.1 mv.1).1]) := by
          rw [hstp, hsome, hfr]
        walk_at "ga"
        refine rd hF5 hP5 hp5 hcm (t5 _ _ hTm) (t5 _ _ hTa) (t5 _ _ hTb) (t5 _ _ hcf) ?_
        walk_at "ga"
        refine ⟨tyv_list (SqL.of el5), ?_⟩
        walk_at "ga"
        refine l_appN el5 (szl (by omega)) fun H6 e6 hm6 => ?_
        have t6 : TupX K H5 H6 := e6.tup el5
        have st6 : H6 st = some (.lst us2) := e6 _ _ nes.symm st5
        walk_at "ga"
        refine ⟨tyv_list (SqL.of st6), ?_⟩
        walk_at "ga"
        refine l_catD (t6 _ _ (t5 _ _ hcf)) (t6 _ _ (t5 _ _ hcfr)) (sz (by rw [List.length_map, List.length_map, hmv1, r3]; omega)) fun c7 H7 e7 hc7 => ?_
        walk_at "ga"
        have st7 := e7 _ _ st6
        refine l_appN st7 (szl (by omega)) fun H8 e8 hm8 => ?_
        have t8 : TupX K H7 H8 := e8.tup st7
        have t58 : TupX K H5 H8 := (t6.trans (TupX.same e7)).trans t8
        have e58 : SameEx [el, st] H5 H8 := ((SameEx.of_but e6 List.mem_cons_self).trans (SameEx.of_same e7)).trans (SameEx.of_but e8 (List.mem_cons_of_mem _ List.mem_cons_self))
        have hS5 : NTup H5 [el, st] := NTup.cons (nt_lst el5) (NTup.cons (nt_lst st5) NTup.nil)
        have na3 := ne_of hF5.obj el5 (fun z => nomatch z)
        have na4 := ne_of hF5.obj st5 (fun z => nomatch z)
        refine ⟨_, _, _, _, rfl, ?_, (acs.add i ((stepM b M p.1 mv.1).2, x.2.2) (mv.1 ++ (stepM b M p.1 mv.1).1), aes ++ [(x.2.1, ixOf ((stepM b M p.1 mv.1).2, x.2.2) (acs.add i ((stepM b M p.1 mv.1).2, x.2.2) (mv.1 ++ (stepM b M p.1 mv.1).1)).pairs)], aps ++ [mv.1 ++ (stepM b M p.1 mv.1).1]), hF5.ex e58 hS5 (nin2 na3 na4) (nin2 (neS hnl).1 (neS hnl).2) ?_, hP5.ex e58 hS5 (nin2 npl.1 npl.2) (nin2 nal.1 nal.2), hs5, hp5, ⟨_, e8 _ _ nes (e7 _ _ hm6), ?_⟩, ⟨_, hm8, ?_⟩, ?_, ?_, ?_⟩
        · refine e4.trans ((SameEx.mono (fun y hy => ?_) e5).trans (SameEx.mono (fun y hy => ?_) e58))
          · rcases List.mem_cons.mp hy with rfl | hy
            · exact List.mem_cons_self
            · rw [List.mem_singleton.mp hy]; exact List.mem_cons_of_mem _ List.mem_cons_self
          · exact List.mem_cons_of_mem _ (List.mem_cons_of_mem _ hy)
        · obtain ⟨wo1, hol1, _⟩ := hJ.fx.ord
          exact nin2 (neS hol1).1 (neS hol1).2
        · show TDs K H8 _ ((aes ++ [_]).map encE)
          rw [List.map_append]
          exact ((hud.mono t5).mono t58).append (.one (hc5.mono t58))
        · show TDs K H8 _ ((aps ++ [_]).map encB)
          rw [List.map_append]
          refine ((hud2.mono t5).mono t58).append (.one (td_encB ?_))
          rw [List.map_append]
          exact t8 _ _ hc7
        · show (aes ++ [_]).length = _
          rw [List.length_append, hl1]
          rfl
        · show (aps ++ [_]).length = _
          rw [List.length_append, hl2]
          rfl
        · rw [hfold, drop_get hmv, srFold_some hstp2]
    · obtain ⟨y4, y5, y6, y7, rfl, e4, acc, hF, hP4, hs4, hp4, ⟨us, hel4, hud⟩, ⟨us2, hst4, hud2⟩, hl1, hl2, hfold⟩ := h
      obtain ⟨acs, aes, aps⟩ := acc
      simp only at hF hP4 hs4 hp4 hud hud2 hl1 hl2 hfold
      rw [hyl, List.drop_length, srFold_nil] at hfold
      have E4 : SameEx J.S H1 H4 := e14 e4
      have ET : SameEx [J.pl, J.al, el, st] H1 H4 := (SameEx.of_same e13).trans e4
      have hS1 : NTup H1 [J.pl, J.al, el, st] := NTup.cons (nt_lst hpl) (NTup.cons (nt_lst hal) (NTup.cons (nt_none el0) (NTup.cons (nt_none (e2.free st0)) NTup.nil)))
      have hcond : ∀ x, x ∉ J.S → (∃ o, H1 x = some o) → x ∉ [J.pl, J.al, el, st] := fun x hx ⟨o, ho⟩ => by
        obtain ⟨g1, g2, g3, g4⟩ := of_nin4 hx
        exact nin4 g1 g4 (neS ho).1 (neS ho).2
      have hgN := hJ.gr.ex ET hS1 hcond (nin4 d9.symm d13 ngl.1 ngl.2)
      have hsN := hJ.st.ex ET hS1 hcond (nin4 d10.symm d14 nsl.1 nsl.2)
      have gl4 := ET _ _ (nin4 d9.symm d13 ngl.1 ngl.2) hgl
      have sl4 := ET _ _ (nin4 d10.symm d14 nsl.1 nsl.2) hsl
      have elS : el ∉ J.S := nin4 npl.1.symm ngl.1.symm nsl.1.symm nal.1.symm
      have stS : st ∉ J.S := nin4 npl.2.symm ngl.2.symm nsl.2.symm nal.2.symm
      have glS : J.gl ∈ J.S := List.mem_cons_of_mem _ List.mem_cons_self
      have slS : J.sl ∈ J.S := List.mem_cons_of_mem _ (List.mem_cons_of_mem _ List.mem_cons_self)
      walk_at "ga"
      refine l_fldA ?_
      walk_at "ga"
      refine l_Jgraph D hF.obj ?_
      refine ⟨tyv_list (SqL.of gl4), ?_⟩
      walk_at "ga"
      refine l_appN gl4 (szl (by omega)) fun H5 e5 hm5 => ?_
      have ag := ne_of hF.obj gl4 (fun z => nomatch z)
      have as' := ne_of hF.obj sl4 (fun z => nomatch z)
      have hS4 : NTup H4 [J.gl] := NTup.cons (nt_lst gl4) NTup.nil
      have ex5 : SameEx [J.gl] H4 H5 := SameEx.of_but e5 List.mem_cons_self
      have n1 : ∀ {x : Addr}, x ≠ J.gl → x ∉ [J.gl] := fun h z => h (List.mem_singleton.mp z)
      have hF5 : JFix K H5 a J b M := hF.ex ex5 hS4 (n1 ag) (n1 d2) (n1 d6)
      have hP5 : JPairs K H5 J acs := hP4.ex ex5 hS4 (n1 d9) (n1 d13.symm)
      have hG5 := hgN.put gl4 glS e5 hm5 hel4 hud elS
      have hsN5 := hsN.ex ex5 hS4 (fun x hx _ => n1 (fun z => hx (z ▸ glS))) (n1 d12.symm)
      have sl5 := e5 _ _ d12.symm sl4
      have st5 := e5 _ _ ngl.2.symm hst4
      have hud5 : TDs K H5 us2 (aps.map encB) := hud2.mono (e5.tup gl4)
      walk_at "ga"
      refine l_fldA ?_
      walk_at "ga"
      refine l_Jsets D hF5.obj ?_
      refine ⟨tyv_list (SqL.of sl5), ?_⟩
      walk_at "ga"
      refine l_appN sl5 (szl (by omega)) fun H6 e6 hm6 => ?_
      have hS5 : NTup H5 [J.sl] := NTup.cons (nt_lst sl5) NTup.nil
      have ex6 : SameEx [J.sl] H5 H6 := SameEx.of_but e6 List.mem_cons_self
      have n2 : ∀ {x : Addr}, x ≠ J.sl → x ∉ [J.sl] := fun h z => h (List.mem_singleton.mp z)
      refine ⟨_, _, _, _, _, _, _, rfl, ?_, (acs, G ++ [aes], S ++ [aps]), ⟨hF5.ex ex6 hS5 (n2 as') (n2 d3) (n2 d7), hP5.ex ex6 hS5 (n2 d10) (n2 d14.symm), hG5.ex ex6 hS5 (fun x hx _ => n2 (fun z => hx (z ▸ slS))) (n2 d12), hsN5.put sl5 slS e6 hm6 st5 hud5 stS⟩, hs4, ?_, ?_, ?_, ?_⟩
      · exact e1.trans (E4.trans ((SameEx.of_but e5 glS).trans (SameEx.of_but e6 slS)))
      · show (G ++ [aes]).length = _
        rw [List.length_append, hg]
        rfl
      · show (S ++ [aps]).length = _
        rw [List.length_append, hst]
        rfl
      · exact (List.getElem?_eq_some_iff.mp hp4).1
      · rw [hrun, show 100 - i = (100 - (i + 1)) + 1 by omega]
        refine srRun_go (acc := (acs, aes, aps)) (by show G.length < s.pairs.length; omega) ?_
        show srFold b M G.length (movesN b (s.pairs.getD G.length (0, 0)).2) (s, [], []) = _
        rw [hg, hpg, hfold]
  · have hge : s.pairs.length ≤ i := by have := of_decide_eq_false e; omega
    walk_at "ga"
    have hend : srRes b M = .inr (s, G, S) := by rw [hrun]; exact srRun_end (by rw [hg]; exact hge)
    exact k1 _ hend hs (by show s.pairs.length = G.length; omega) (by show G.length = S.length; omega) H1 e1 hJ
end
/-! ### heights, plain -/
abbrev Hs := List (Option Int)
def vH : Option Int → V
  | none => .non
  | some x => .int x
def encH : Option Int → PyData
  | none => .none
  | some x => .int x
theorem encH_eqv (x y : Option Int) : PyData.eqv (encH x) (encH y) = true ↔ x = y := by
  cases x with
  | none =>
    cases y with
    | none => simp only [encH, PyData.eqv]
    | some y => simp [encH, PyData.eqv]
  | some x =>
    cases y with
    | none => simp [encH, PyData.eqv]
    | some y => rw [encH, encH, eqv_int]; simp
theorem encHs_shaped (hs : Hs) : SeqAt.shaped (.list (hs.map encH)) = true := by
  refine shaped_of ?_ ?_
  · rw [lay_lst]
    refine lay_map fun x _ => ?_
    cases x with
    | none => exact lay_non
    | some x => exact lay_int
  · rw [dep_lst]
    have := dep_map (f := encH) (n := 0) (l := hs) fun x _ => by
      cases x with
      | none => rw [encH, dep_non]; exact Nat.le_refl _
      | some x => rw [encH, dep_int]; exact Nat.le_refl _
    omega
theorem vH_td {K : PySem.W.Frag} {H : Hp} : ∀ hs : Hs, TDs K H (hs.map vH) (hs.map encH)
  | [] => .nil
  | none :: r => .cons .non (vH_td r)
  | some x :: r => .cons (.int x) (vH_td r)
def adj (up down : Int) (k : Nat) (x : Int) : Int := down * x - up * (k : Nat)
/-- a list of heights: each is a way's weight -/
structure HOk (G : Gr) (up down : Int) (hs : Hs) : Prop where
  len : hs.length = G.length
  val : ∀ (v : Nat) (x : Int), hs[v]? = some (some x) → ∃ k w, Way G k 0 v w ∧ x = adj up down k w
/-- ways of at most m edges are covered -/
def HCov (G : Gr) (up down : Int) (m : Nat) (hs : Hs) : Prop := ∀ k v w, k ≤ m → Way G k 0 v w → ∃ x, hs[v]? = some (some x) ∧ adj up down k w ≤ x
def HLe (h0 hs : Hs) : Prop := ∀ (v : Nat) (x0 : Int), h0[v]? = some (some x0) → ∃ x, hs[v]? = some (some x) ∧ x0 ≤ x
/-- the edges up to (j, q) have been looked at -/
def HDone (G : Gr) (up down : Int) (h0 hs : Hs) (j q : Nat) : Prop := ∀ (u e : Nat) (l : Int) (t : Nat) (x0 : Int), (G.at u)[e]? = some (l, t) → (u < j ∨ u = j ∧ e < q) → h0[u]? = some (some x0) → ∃ y, hs[t]? = some (some y) ∧ x0 + down * l - up ≤ y
theorem HLe.refl (h : Hs) : HLe h h := fun _ x h => ⟨x, h, Int.le_refl _⟩
theorem HLe.trans {a b c : Hs} (h1 : HLe a b) (h2 : HLe b c) : HLe a c := fun v x h => by
  obtain ⟨y, g1, g2⟩ := h1 v x h
  obtain ⟨z, g3, g4⟩ := h2 v y g1
  exact ⟨z, g3, Int.le_trans g2 g4⟩
theorem HDone.mono {G : Gr} {up down : Int} {h0 hs hs2 : Hs} {j q : Nat} (h : HDone G up down h0 hs j q) (e : HLe hs hs2) : HDone G up down h0 hs2 j q := fun u e1 l t x0 h1 h2 h3 => by
  obtain ⟨y, g1, g2⟩ := h u e1 l t x0 h1 h2 h3
  obtain ⟨z, g3, g4⟩ := e t y g1
  exact ⟨z, g3, Int.le_trans g2 g4⟩
theorem HDone.zero {G : Gr} {up down : Int} {h0 hs : Hs} : HDone G up down h0 hs 0 0 := fun u e l t x0 _ h => absurd h (by omega)
theorem HDone.row {G : Gr} {up down : Int} {h0 hs : Hs} {j q : Nat} (h : HDone G up down h0 hs j q) (hq : (G.at j).length ≤ q) : HDone G up down h0 hs (j + 1) 0 := fun u e l t x0 h1 h2 h3 => h u e l t x0 h1 (by
  by_cases hu : u = j
  · subst hu
    have := (List.getElem?_eq_some_iff.mp h1).1
    exact .inr ⟨rfl, by omega⟩
  · exact .inl (by omega)) h3
theorem HDone.edge {G : Gr} {up down : Int} {h0 hs : Hs} {j q : Nat} {l : Int} {t : Nat} (h : HDone G up down h0 hs j q) (he : (G.at j)[q]? = some (l, t)) (hn : ∀ x0, h0[j]? = some (some x0) → ∃ y, hs[t]? = some (some y) ∧ x0 + down * l - up ≤ y) : HDone G up down h0 hs j (q + 1) := fun u e l' t' x0 h1 h2 h3 => by
  by_cases hu : u = j ∧ e = q
  · obtain ⟨rfl, rfl⟩ := hu
    rw [he] at h1
    cases h1
    exact hn x0 h3
  · exact h u e l' t' x0 h1 (by omega) h3
theorem HDone.cov {G : Gr} {up down : Int} {h0 hs : Hs} {m : Nat} (hc : HCov G up down m h0) (hl : HLe h0 hs) (h : HDone G up down h0 hs G.length 0) : HCov G up down (m + 1) hs := fun k v w hk hw => by
  cases hw with
  | nil =>
    obtain ⟨x, g1, g2⟩ := hc 0 0 0 (Nat.zero_le _) (.nil 0)
    obtain ⟨y, g3, g4⟩ := hl 0 x g1
    exact ⟨y, g3, Int.le_trans g2 g4⟩
  | @snoc k _ u x l _ hw he =>
    obtain ⟨x1, g1, g2⟩ := hc k u x (by omega) hw
    obtain ⟨e, he1, he2⟩ := List.mem_iff_getElem.mp he
    obtain ⟨y, g3, g4⟩ := h u e l v x1 (List.getElem?_eq_some_iff.mpr ⟨he1, he2⟩) (.inl (Gr.at_mem he)) g1
    refine ⟨y, g3, ?_⟩
    unfold adj at g2 ⊢
    rw [Int.mul_add, show ((k + 1 : Nat) : Int) = (k : Int) + 1 by omega, Int.mul_add, Int.mul_one]
    omega
/-- a better height is put in -/
theorem HOk.put {G : Gr} {up down : Int} {hs : Hs} (h : HOk G up down hs) {u t : Nat} {l x : Int} (hu : hs[u]? = some (some x)) (he : (l, t) ∈ G.at u) : HOk G up down (hs.set t (some (x + down * l - up))) := by
  refine ⟨by rw [List.length_set]; exact h.len, fun v y hv => ?_⟩
  by_cases e : v = t
  · subst e
    rw [List.getElem?_set_self' ] at hv
    cases hh : hs[v]? with
    | none => rw [hh] at hv; cases hv
    | some z =>
      rw [hh] at hv
      have hv : some (x + down * l - up) = some y := Option.some.inj hv
      have hv := Option.some.inj hv
      obtain ⟨k, w, hw, rfl⟩ := h.val u x hu
      refine ⟨k + 1, w + l, hw.snoc he, ?_⟩
      rw [← hv]
      unfold adj
      rw [Int.mul_add, show ((k + 1 : Nat) : Int) = (k : Int) + 1 by omega, Int.mul_add, Int.mul_one]
      omega
  · rw [List.getElem?_set_ne (fun z => e z.symm)] at hv
    exact h.val v y hv
theorem HLe.put {hs : Hs} {t : Nat} {y : Int} (ht : t < hs.length) (h : ∀ x, hs[t]? = some (some x) → x ≤ y) : HLe hs (hs.set t (some y)) := fun v x hv => by
  by_cases e : v = t
  · subst e
    exact ⟨y, by rw [List.getElem?_set_self ht], h x hv⟩
  · exact ⟨x, by rw [List.getElem?_set_ne (fun z => e z.symm)]; exact hv, Int.le_refl _⟩
/-- the last pass changes nothing -/
theorem H_eq {G : Gr} {up down : Int} {hb hs : Hs} {m : Nat} (hd : ∀ v k w, Way G k 0 v w → ∃ k' w', k' ≤ m ∧ Way G k' 0 v w' ∧ adj up down k w ≤ adj up down k' w') (o1 : hb.length = G.length) (c : HCov G up down m hb) (o2 : HOk G up down hs) (le : HLe hb hs) : hb = hs := by
  refine List.ext_getElem? fun v => ?_
  by_cases hv : v < G.length
  · have e1 : hb[v]? = some hb[v] := List.getElem?_eq_getElem (by omega)
    have e2 : hs[v]? = some (hs[v]'(by rw [o2.len]; exact hv)) := List.getElem?_eq_getElem (by rw [o2.len]; exact hv)
    cases q1 : hs[v]'(by rw [o2.len]; exact hv) with
    | none =>
      cases q2 : hb[v] with
      | none => rw [e1, e2, q1, q2]
      | some y =>
        rw [q2] at e1
        obtain ⟨z, g1, _⟩ := le v y e1
        rw [e2, q1] at g1
        cases g1
    | some x =>
      rw [q1] at e2
      obtain ⟨k, w, hw, rfl⟩ := o2.val v x e2
      obtain ⟨k', w', h1, h2, h3⟩ := hd v k w hw
      obtain ⟨y, g1, g2⟩ := c k' v w' h1 h2
      obtain ⟨z, g3, g4⟩ := le v y g1
      rw [e2] at g3
      have g3 := Option.some.inj (Option.some.inj g3)
      have : y = adj up down k w := by omega
      rw [g1, e2, this]
  · rw [List.getElem?_eq_none (by omega), List.getElem?_eq_none (by have := o2.len; omega)]
section
variable {P : Program} {w : World} {K : PySem.W.Frag} {mg : Str → Option Value} {base : Heap}
theorem l_gsub {to ti : TE} {t : TSet} {v : V} {σ : L2.St} {H : Hp} {Q : L2.St → Hp → Prop} (q : to σ H fun o H1 => ti σ H1 fun i H2 => t o i v H2 fun H3 => Q σ H3) : gSub to ti t v σ H Q := q
theorem ixN_nat {n j : Nat} (h : j < n) : ixN n (j : Int) = some j := by
  unfold ixN
  rw [if_pos (by omega), if_pos (by omega), Int.toNat_natCast]
theorem map_vH_set (hs : Hs) (t : Nat) (x : Option Int) : (hs.map vH).set t (vH x) = (hs.set t x).map vH := List.map_set.symm
theorem l_setH {H : Hp} {l : Addr} {hs : Hs} {t : Nat} {x : Option Int} {R : Hp → Prop} (h : H l = some (.lst (hs.map vH))) (ht : t < hs.length) (q : ∀ H', SameBut l H H' → H' l = some (.lst ((hs.set t x).map vH)) → R H') : rSetL (.ref l) (.int (t : Nat)) (vH x) H R := by
  refine ⟨l, _, _, t, rfl, rfl, h, ixN_nat (by rw [List.length_map]; exact ht), ?_⟩
  refine q _ SameBut.upd ?_
  rw [upd_same, map_vH_set]
theorem vH_get {hs : Hs} {v : Nat} {x : Option Int} (h : hs[v]? = some x) : (hs.map vH)[v]? = some (vH x) := by rw [List.getElem?_map, h]; rfl
def spHeights (K : PySem.W.Frag) : Sp := fun vs H Q _ => ∃ (a : Addr) (J : JA) (b : Book) (M : Mach) (r : Res) (up down : Int), vs = [.ref a, .int up, .int down] ∧ JAt K H a J b M r ∧ Gr.Ok r.2.1 ∧ 0 < r.2.1.length ∧ r.2.1.length ≤ 100 ∧ r.1.pairs.length = r.2.1.length ∧
  (∀ es ∈ r.2.1, ∀ e ∈ es, 0 ≤ e.1 ∧ e.1 ≤ 1000) ∧ (∀ v k w, Way r.2.1 k 0 v w → ∃ k' w', k' < r.2.1.length ∧ Way r.2.1 k' 0 v w' ∧ adj up down k w ≤ adj up down k' w') ∧
  ∀ l H' hs, Same H H' → H l = none → H' l = some (.lst (hs.map vH)) → HOk r.2.1 up down hs → HCov r.2.1 up down 0 hs → HDone r.2.1 up down hs hs r.2.1.length 0 → Q (.ref l) H'
theorem sc_Judge_heights : FnScope ["self", "up", "down", "made", "pair", "before", "at", "loss", "to"] ["self", "up", "down"] (defScope s_Judge_heights) := ⟨rfl, rfl, rfl, by decide +kernel, rfl, by decide +kernel, by decide +kernel⟩
theorem ok_Judge_heights (D : Hd K mg) : OkM P w K mg base "Judge" "heights" ["self", "up", "down"] 1 (spHeights K) := by
  obtain ⟨fd, F⟩ := F_Judge_heights D
  refine ⟨cl_Judge D, mt_Judge_heights D, fd, F.ok sc_Judge_heights (fun vs H Q E h => ?_) (fun cdv A outer sS H vs Q E hr h => ?_), F.bindsN fun _ _ _ _ _ _ us hl => match us, hl with | [_, _, _], _ => rfl⟩
  · obtain ⟨a, J, b, M, r, up, down, rfl, _⟩ := h
    rfl
  obtain ⟨a, J, b, M, ⟨s, G, S⟩, up, down, rfl, hJ, hG, h0, hz, hpl, hlo, hd, k⟩ := h
  simp only at hG h0 hz hpl hlo hd k
  obtain ⟨wp, hpl1, hpd⟩ := hJ.pr.pr
  have hwp : wp.length = G.length := by rw [hpd.length, List.length_map]; exact hpl
  have hg := hJ.gr.at
  simp only at hg
  refine ⟨_, (PSs.nox (pss_cons (ps_setLc (i := 3) (own := [("pair", 4)]) (g := gName 4) (tt := tYes) (by rfl) sc_Judge_heights.nd rfl rfl (sw_true rfl rfl rfl (by decide +kernel)) (pi_listK K (pe_fldK K (pv 0))) (blkOk_by (N := ["self", "up", "down", "made", "pair", "before", "at", "loss", "to"]) (sc := defScope s_Judge_heights) (by decide +kernel)) (fun _ _ _ _ _ => (pg_name (i := 4) sc_Judge_heights.nd rfl (Or.inl rfl))) (fun _ _ _ _ _ => pts_nil) (fun _ _ _ _ _ => pe_non))
      (pss_cons (ps_asg pe_int (pg_sub (pv 3) pe_int set_list))
      (pss_cons (ps_set (i := 5) sc_Judge_heights.nd rfl (Or.inl rfl) pe_non)
      (pss_cons (ps_while PassesOwn.never (pt_cmpR (op_neDK K (hu64 hr)) (pv 5) (pv 3) (nomark _)) (pss_cons (ps_set (i := 5) sc_Judge_heights.nd rfl (Or.inl rfl) (pe_callTy (cl_listK K) (by rfl) (g_list D) (by decide +kernel) (pa_cons (pv 3) pa_nil)))
      (pss_one (ps_for PassesOwn.never rfl (pi_range1 (by rfl) (g_range D) (pa_cons (pe_callB (cl_lenK K) (by rfl) (g_len D) (by decide +kernel) (pa_cons (pe_fldK K (pv 0)) pa_nil)) pa_nil)) (pg_name (i := 6) sc_Judge_heights.nd rfl (Or.inl rfl)) (pss_one (ps_for PassesOwn.never rfl (pi_listK K (pe_ix (ix_listK K) (pe_fldK K (pv 0)) (pv 6) (fun _ _ => rfl))) (pg_tupK K (n := 2) rfl (pgs_cons (pg_name (i := 7) sc_Judge_heights.nd rfl (Or.inl rfl)) (pgs_cons (pg_name (i := 8) sc_Judge_heights.nd rfl (Or.inl rfl)) pgs_nil))) (pss_one (ps_if (PW.pt (pw_and (pt_cmpR op_isnt0 (pe_ix (ix_listK K) (pv 3) (pv 6) (fun _ _ => rfl)) pe_non (nomark _)) (pw_and1 (PW.pt (pw_or (pt_cmpR op_is0 (pe_ix (ix_listK K) (pv 3) (pv 8) (fun _ _ => rfl)) pe_non (nomark _)) (pw_or1 (pt_cmpR op_gt (pe_op op_sub (pe_op op_add (pe_ix (ix_listK K) (pv 3) (pv 6) (fun _ _ => rfl)) (pe_op op_mul (pv 2) (pv 7))) (pv 1)) (pe_ix (ix_listK K) (pv 3) (pv 8) (fun _ _ => rfl)) (nomark _)))))))) (pss_one (ps_asg (pe_op op_sub (pe_op op_add (pe_ix (ix_listK K) (pv 3) (pv 6) (fun _ _ => rfl)) (pe_op op_mul (pv 2) (pv 7))) (pv 1)) (pg_sub (pv 3) (pv 8) set_list))) pss_nil))))))))
      (pss_one (ps_ret (pv 3)))))))), ?_⟩
  walk_at "ga"
  refine l_fldA ?_
  walk_at "ga"
  refine l_Jpairs D hJ.fx.obj ?_
  refine lcL (SqL.of hpl1) (fun i => List.replicate i V.non) rfl (fun Dd i x H' hD hx e hm => ?_) (fun l H1 hl e1 hm => ?_)
  · walk_at "go"
    refine ⟨rfl, ?_⟩
    walk_at "ga"
    have hi := (List.getElem?_eq_some_iff.mp hx).1
    exact lc_put hD e hm (szl (by rw [List.length_replicate]; omega)) (by rw [List.replicate_succ'])
  rw [hwp] at hm
  have hm1 : H1 l = some (.lst ((List.replicate G.length (none : Option Int)).map vH)) := by rw [hm, List.map_replicate]; rfl
  walk_at "ga"
  refine l_gsub ?_
  walk_at "ga"
  refine l_setH (t := 0) (x := some 0) hm1 (by rw [List.length_replicate]; exact h0) fun H2 e2 hm2 => ?_
  have e02 : Same H H2 := e2.same e1 hl
  have hk0 : HOk G up down ((List.replicate G.length (none : Option Int)).set 0 (some 0)) := by
    refine ⟨by rw [List.length_set, List.length_replicate], fun v x hv => ?_⟩
    by_cases e : v = 0
    · subst e
      rw [List.getElem?_set_self (by rw [List.length_replicate]; exact h0)] at hv
      have hv := Option.some.inj (Option.some.inj hv)
      exact ⟨0, 0, .nil 0, by rw [← hv]; unfold adj; omega⟩
    · rw [List.getElem?_set_ne (fun z => e z.symm), List.getElem?_replicate] at hv
      split at hv
      · cases hv
      · cases hv
  have hc0 : HCov G up down 0 ((List.replicate G.length (none : Option Int)).set 0 (some 0)) := fun k v w hk hw => by
    have : k = 0 := by omega
    subst this
    cases hw
    exact ⟨0, List.getElem?_set_self (by rw [List.length_replicate]; exact h0), by unfold adj; omega⟩
  generalize (List.replicate G.length (none : Option Int)).set 0 (some 0) = hs0 at hm2 hk0 hc0
  walk_at "ga"
  refine whileN (G.length + 1) (fun i σ' H' => ∃ z4 bv z6 z7 z8 hs, σ' = [some (.ref a), some (.int up), some (.int down), some (.ref l), z4, some bv, z6, z7, z8] ∧ SameBut l H2 H' ∧ H' l = some (.lst (hs.map vH)) ∧ HOk G up down hs ∧ HCov G up down i hs ∧
      ((i = 0 ∧ bv = .non) ∨ ∃ lb hb, bv = .ref lb ∧ lb ≠ l ∧ H' lb = some (.lst (hb.map vH)) ∧ 1 ≤ i ∧ hb.length = G.length ∧ HCov G up down (i - 1) hb ∧ HLe hb hs ∧ HDone G up down hb hs G.length 0))
    ⟨_, _, _, _, _, hs0, rfl, SameBut.refl l H2, hm2, hk0, hc0, .inl ⟨rfl, rfl⟩⟩ (fun i σ' H3 h => ?_)
  obtain ⟨z4, bv, z6, z7, z8, hs, rfl, e3, hm3, hk, hc, hb⟩ := h
  have e03 : Same H H3 := e3.same e02 hl
  have key : ∃ d, Dp K H3 bv d ∧ SeqAt.shaped d = true ∧ ((PyData.eqv d (.list (hs.map encH)) = false ∧ i < G.length + 1) ∨ (PyData.eqv d (.list (hs.map encH)) = true ∧ HDone G up down hs hs G.length 0)) := by
    rcases hb with ⟨rfl, rfl⟩ | ⟨lb, hb, rfl, hlb, hbm, hi1, hbl, hbc, hble, hbd⟩
    · exact ⟨.none, .non, by decide +kernel, .inl ⟨by simp only [PyData.eqv], by omega⟩⟩
    · refine ⟨_, dpl (SqL.of hbm) (vH_td hb), encHs_shaped hb, ?_⟩
      rw [eqv_lst]
      by_cases he : hb = hs
      · subst he
        exact .inr ⟨(eqvA_map encH_eqv hb hb).mpr rfl, hbd⟩
      · refine .inl ⟨?_, Classical.byContradiction fun hi => he ?_⟩
        · cases q : PyData.eqvAll (hb.map encH) (hs.map encH) with
          | false => rfl
          | true => exact absurd ((eqvA_map encH_eqv hb hs).mp q) he
        · refine H_eq (m := i - 1) (fun v k w hw => ?_) hbl hbc hk hble
          obtain ⟨k', w', g1, g2, g3⟩ := hd v k w hw
          exact ⟨k', w', by omega, g2, g3⟩
  obtain ⟨d, hdp, hds, hcase⟩ := key
  walk_at "ga"
  refine l_neD hdp (dpl (SqL.of hm3) (vH_td hs)) hds (encHs_shaped hs) ?_
  walk_at "go"
  rcases hcase with ⟨hf, hi⟩ | ⟨ht, hfix⟩
  · refine l_iT (by rw [hf]; rfl) ?_
    refine wturn hi ?_
    clear hb hdp hds hf d
    walk_at "ga"
    refine l_listL (SqL.of hm3) fun lb hlb0 => ?_
    have e4 : Same H3 (upd H3 lb (.lst (hs.map vH))) := same_new hlb0
    have hlb : upd H3 lb (.lst (hs.map vH)) lb = some (.lst (hs.map vH)) := upd_same
    revert e4 hlb
    generalize upd H3 lb (.lst (hs.map vH)) = H4
    intro e4 hlb
    have nlb : lb ≠ l := (ne_of_none hm3 hlb0).symm
    have e04 := e03.trans e4
    have hm4 := e4 _ _ hm3
    have hJ4 := hJ.same e04
    have hpl4 := e04 _ _ hpl1
    walk_at "ga"
    refine l_fldA ?_
    walk_at "ga"
    refine l_Jpairs D hJ4.fx.obj ?_
    walk_at "ga"
    rw [hwp]
    have keep : ∀ {H5 : Hp}, SameBut l H4 H5 → Same H H5 := fun e => e.same e04 hl
    refine forR (fun j σ' H' => ∃ z6 z7 z8 hs2, σ' = [some (.ref a), some (.int up), some (.int down), some (.ref l), z4, some (.ref lb), z6, z7, z8] ∧ SameBut l H4 H' ∧ H' l = some (.lst (hs2.map vH)) ∧ HOk G up down hs2 ∧ HLe hs hs2 ∧ HDone G up down hs hs2 j 0) (by omega)
      ⟨_, _, _, hs, rfl, SameBut.refl l H4, hm4, hk, HLe.refl hs, HDone.zero⟩ (fun j σ' H5 hj h => ?_) (fun σ' H5 h => ?_)
    · obtain ⟨y6, y7, y8, hs2, rfl, e5, hm5, hk5, hle5, hd5⟩ := h
      have hJ5 := hJ.same (keep e5)
      have hg5 := hJ5.gr.at
      simp only at hg5
      obtain ⟨gs, ae, us, p1, p2, p3, p4⟩ := hg5.row hj
      have hul : us.length = (G.at j).length := by rw [p4.length, List.length_map]
      have nae : ae ≠ l := by
        obtain ⟨gs', ae', us', r1, r2, r3, r4⟩ := hg.row hj
        have q := (keep e5) _ _ r1
        rw [p1] at q
        cases q
        rw [p2] at r2
        cases r2
        exact ne_of_none r3 hl
      walk_at "ga"
      refine l_fldA ?_
      walk_at "ga"
      refine l_Jgraph D hJ5.fx.obj ?_
      walk_at "ga"
      refine l_ixL (SqL.of p1) (atI_nat p2) ?_
      refine forL (SqL.of p3) (fun q σ' H' => ∃ z7 z8 hs2, σ' = [some (.ref a), some (.int up), some (.int down), some (.ref l), z4, some (.ref lb), some (.int (j : Nat)), z7, z8] ∧ SameBut l H5 H' ∧ H' l = some (.lst (hs2.map vH)) ∧ HOk G up down hs2 ∧ HLe hs hs2 ∧ HDone G up down hs hs2 j q)
        ⟨_, _, hs2, rfl, SameBut.refl l H5, hm5, hk5, hle5, hd5⟩ (fun q σ' H' _ h => ?_) (fun q x σ' H6 hx h => ?_) (fun σ' H6 h => ?_)
      · obtain ⟨_, _, _, _, e6, _⟩ := h
        exact SqL.of (e6 _ _ nae p3)
      · obtain ⟨y7, y8, hs3, rfl, e6, hm6, hk6, hle6, hd6⟩ := h
        obtain ⟨dd, hd1, hx2⟩ := p4.at hx
        rw [List.getElem?_map] at hd1
        obtain ⟨⟨el, et⟩, he, rfl⟩ := Option.map_eq_some_iff.mp hd1
        have t6 : TupX K H5 H6 := e6.tup hm5
        obtain ⟨c, u1, u2, rfl, hc', q1, q2⟩ := (hx2.mono t6).t2
        cases q1.int_inv
        cases q2.int_inv
        have hem : (el, et) ∈ G.at j := List.mem_of_getElem? he
        have het : et < G.length := hG.to hem
        have hel : 0 ≤ el ∧ el ≤ 1000 := hlo _ (List.mem_of_getElem? (Gr.at_get hj)) _ hem
        have hl6 := hk6.len
        have ej : hs3[j]? = some (hs3[j]'(by omega)) := List.getElem?_eq_getElem (by omega)
        have ee : hs3[et]? = some (hs3[et]'(by omega)) := List.getElem?_eq_getElem (by omega)
        generalize hs3[j]'(by omega) = xj at ej
        generalize hs3[et]'(by omega) = xe at ee
        have rdJ : ∀ {Q0 : VK}, Q0 (vH xj) H6 → rIxL K (.ref l) (.int (j : Nat)) H6 Q0 := fun q => l_ixL (SqL.of hm6) (atI_nat (vH_get ej)) q
        have rdE : ∀ {Q0 : VK}, Q0 (vH xe) H6 → rIxL K (.ref l) (.int (et : Nat)) H6 Q0 := fun q => l_ixL (SqL.of hm6) (atI_nat (vH_get ee)) q
        walk_at "ga"
        refine rdJ ?_
        cases xj with
        | none =>
          walk_at "ga"
          refine ⟨_, _, hs3, rfl, e6, hm6, hk6, hle6, hd6.edge he fun x0 hx0 => ?_⟩
          obtain ⟨z, g1, _⟩ := hle6 j x0 hx0
          rw [ej] at g1
          cases g1
        | some xj =>
          have mulOk : ∀ {Q0 : VK}, Q0 (.int (down * el)) H6 → rI CMul (fun i j => .int (i * j)) (.int down) (.int el) H6 Q0 := fun q => l_I (.inr ⟨by omega, by omega⟩) q
          have le0 : ∀ x0, hs[j]? = some (some x0) → x0 ≤ xj := fun x0 hx0 => by
            obtain ⟨z, g1, g2⟩ := hle6 j x0 hx0
            rw [ej] at g1
            have g1 := Option.some.inj (Option.some.inj g1)
            omega
          have fin7 : ∀ (y7 y8 : Option V) (H7 : Hp), SameBut l H6 H7 → H7 l = some (.lst ((hs3.set et (some (xj + down * el - up))).map vH)) → (∀ x, hs3[et]? = some (some x) → x ≤ xj + down * el - up) →
              ∃ z7 z8 hs2, ([some (.ref a), some (.int up), some (.int down), some (.ref l), z4, some (.ref lb), some (.int (j : Nat)), y7, y8] : L2.St) = [some (.ref a), some (.int up), some (.int down), some (.ref l), z4, some (.ref lb), some (.int (j : Nat)), z7, z8] ∧ SameBut l H5 H7 ∧ H7 l = some (.lst (hs2.map vH)) ∧ HOk G up down hs2 ∧ HLe hs hs2 ∧ HDone G up down hs hs2 j (q + 1) :=
            fun y7 y8 H7 e7 hm7 hx => by
              have hp := HLe.put (hs := hs3) (t := et) (y := xj + down * el - up) (by omega) hx
              refine ⟨_, _, _, rfl, e6.trans e7, hm7, hk6.put ej hem, hle6.trans hp, (hd6.mono hp).edge he fun x0 hx0 => ⟨_, List.getElem?_set_self (by omega), ?_⟩⟩
              have := le0 x0 hx0
              omega
          have rdJ2 : ∀ {Q0 : VK}, Q0 (.int xj) H6 → rIxL K (.ref l) (.int (j : Nat)) H6 Q0 := fun q => rdJ q
          walk_at "ga"
          refine rdE ?_
          cases xe with
          | none =>
            walk_at "ga"
            refine rdJ2 ?_
            walk_at "ga"
            refine mulOk ?_
            walk_at "ga"
            refine l_gsub ?_
            walk_at "ga"
            exact l_setH (t := et) (x := some (xj + down * el - up)) hm6 (by omega) fun H7 e7 hm7 => fin7 _ _ H7 e7 hm7 (fun x hx => by rw [ee] at hx; cases hx)
          | some xe =>
            walk_at "ga"
            refine rdJ2 ?_
            walk_at "ga"
            refine mulOk ?_
            walk_at "ga"
            refine (show ∀ {Q0 : VK}, Q0 (.int xe) H6 → rIxL K (.ref l) (.int (et : Nat)) H6 Q0 from fun q => rdE q) ?_
            walk_at "ga"
            refine l_i2 (fun hgt => ?_) (fun hgt => ?_)
            · have hgt := of_decide_eq_true hgt
              walk_at "ga"
              refine rdJ2 ?_
              walk_at "ga"
              refine mulOk ?_
              walk_at "ga"
              refine l_gsub ?_
              walk_at "ga"
              exact l_setH (t := et) (x := some (xj + down * el - up)) hm6 (by omega) fun H7 e7 hm7 => fin7 _ _ H7 e7 hm7 (fun x hx => by rw [ee] at hx; have hx := Option.some.inj (Option.some.inj hx); omega)
            · have hgt := of_decide_eq_false hgt
              walk_at "ga"
              refine ⟨_, _, hs3, rfl, e6, hm6, hk6, hle6, hd6.edge he fun x0 hx0 => ⟨xe, ee, ?_⟩⟩
              have := le0 x0 hx0
              omega
      · obtain ⟨y7, y8, hs3, rfl, e6, hm6, hk6, hle6, hd6⟩ := h
        exact ⟨_, _, _, hs3, rfl, e5.trans e6, hm6, hk6, hle6, hd6.row (by rw [hul]; exact Nat.le_refl _)⟩
    · obtain ⟨y6, y7, y8, hs2, rfl, e5, hm5, hk5, hle5, hd5⟩ := h
      have hlb5 := e5 _ _ nlb hlb
      exact ⟨_, _, _, _, _, hs2, rfl, (e3.trans (SameBut.of_same e4)).trans e5, hm5, hk5, HDone.cov hc hle5 hd5, .inr ⟨lb, hs, rfl, nlb, hlb5, by omega, hk.len, by rw [Nat.add_sub_cancel]; exact hc, hle5, hd5⟩⟩
  · refine l_iF (by rw [ht]; rfl) ?_
    walk_at "ga"
    exact k l H3 hs e03 hl hm3 hk (fun k v w h1 h2 => hc k v w (by omega) h2) hfix
end
/-! ### around: labelled ways -/
abbrev Tg := List (List (Nat × List Bool))
def Tg.at (T : Tg) (v : Nat) : List (Nat × List Bool) := T.getD v []
def Tg.Ok (T : Tg) : Prop := ∀ es ∈ T, ∀ e ∈ es, e.1 < T.length
inductive LWay (T : Tg) (u : Nat) : Play → Nat → Prop
  | nil : LWay T u [] u
  | snoc {p : Play} {v t : Nat} {s : List Bool} : LWay T u p v → (t, s) ∈ T.at v → LWay T u (p ++ [s]) t
theorem Tg.at_get {T : Tg} {v : Nat} (h : v < T.length) : T[v]? = some (T.at v) := by
  unfold Tg.at
  rw [List.getD_eq_getElem?_getD, List.getElem?_eq_getElem h, Option.getD_some]
theorem Tg.Ok.to {T : Tg} (hT : T.Ok) {v : Nat} {e : Nat × List Bool} (h : e ∈ T.at v) : e.1 < T.length := by
  by_cases q : v < T.length
  · exact hT _ (List.mem_of_getElem? (Tg.at_get q)) e h
  · unfold Tg.at at h
    rw [List.getD_eq_getElem?_getD, List.getElem?_eq_none (by omega), Option.getD_none] at h
    cases h
/-- no way comes back from a closed set without edges to the first -/
theorem no_ring {T : Tg} {u : Nat} {ks : List Nat} (h0 : u ∈ ks) (hc : ∀ v ∈ ks, ∀ e ∈ T.at v, e.1 ≠ u ∧ e.1 ∈ ks) : ∀ p, p ≠ [] → ¬ LWay T u p u := by
  have key : ∀ p v, LWay T u p v → v ∈ ks := by
    intro p v h
    induction h with
    | nil => exact h0
    | snoc _ he ih => exact (hc _ ih _ he).2
  intro p hp h
  cases h with
  | nil => exact hp rfl
  | snoc hw he => exact (hc _ (key _ _ hw) _ he).1 rfl
section
variable {P : Program} {w : World} {K : PySem.W.Frag} {mg : Str → Option Value} {base : Heap}
def encT (e : Nat × List Bool) : PyData := .tuple [.int (e.1 : Nat), encB e.2]
def TRow (K : PySem.W.Frag) (H : Hp) (v : V) (es : List (Nat × List Bool)) : Prop := ∃ a us, v = .ref a ∧ H a = some (.lst us) ∧ TDs K H us (es.map encT)
def TightAt (K : PySem.W.Frag) (H : Hp) (l : Addr) (T : Tg) : Prop := ∃ ws, H l = some (.lst ws) ∧ Paired (TRow K H) ws T
theorem TightAt.same {H H' : Hp} {l : Addr} {T : Tg} (e : Same H H') (h : TightAt K H l T) : TightAt K H' l T := by
  obtain ⟨gs, h1, h2⟩ := h
  refine ⟨gs, e _ _ h1, Paired.mapP h2 fun v es z => ?_⟩
  obtain ⟨a, us, rfl, q1, q2⟩ := z
  exact ⟨a, us, rfl, e _ _ q1, tds_same e q2⟩
theorem TightAt.row {H : Hp} {l : Addr} {T : Tg} (h : TightAt K H l T) {v : Nat} (hv : v < T.length) : ∃ gs a us, H l = some (.lst gs) ∧ gs[v]? = some (.ref a) ∧ H a = some (.lst us) ∧ TDs K H us ((T.at v).map encT) := by
  obtain ⟨gs, h1, h2⟩ := h
  obtain ⟨u, hu, a, us, rfl, h3, h4⟩ := paired_get h2 (Tg.at_get hv)
  exact ⟨gs, a, us, h1, hu, h3, h4⟩
/-- what has been found -/
structure ASt (K : PySem.W.Frag) (H : Hp) (T : Tg) (u : Nat) (rl wl : Addr) (kvs : KV2) (ks : List Nat) (m : Nat) : Prop where
  nk : NodeKeys T.length kvs
  nd : ks.Nodup
  rng : ∀ k ∈ ks, k < T.length
  k0 : u ∈ ks
  dom : ∀ v : Nat, (valV kvs (.inl (v : Int))).isSome = decide (v ∈ ks)
  val : ∀ (v : Nat) x, valV kvs (.inl (v : Int)) = some x → ∃ a us p, x = .ref a ∧ a ≠ rl ∧ a ≠ wl ∧ H a = some (.lst us) ∧ TDs K H us (p.map encB) ∧ LWay T u p v ∧ p.length ≤ m
theorem ASt.ex {H H' : Hp} {T : Tg} {u : Nat} {rl wl : Addr} {kvs : KV2} {ks : List Nat} {m m' : Nat} {S : List Addr} (e : SameEx S H H') (hS : NTup H S) (hs : ∀ x ∈ S, x = rl ∨ x = wl) (hm : m ≤ m') (h : ASt K H T u rl wl kvs ks m) : ASt K H' T u rl wl kvs ks m' := by
  refine ⟨h.nk, h.nd, h.rng, h.k0, h.dom, fun v x hx => ?_⟩
  obtain ⟨a, us, p, rfl, h1, h2, h3, h4, h5, h6⟩ := h.val v x hx
  refine ⟨a, us, p, rfl, h1, h2, e _ _ (fun z => ?_) h3, h4.mono (e.tup hS), h5, by omega⟩
  rcases hs a z with q | q
  · exact h1 q
  · exact h2 q
theorem ASt.len {H : Hp} {T : Tg} {u : Nat} {rl wl : Addr} {kvs : KV2} {ks : List Nat} {m : Nat} (h : ASt K H T u rl wl kvs ks m) : ks.length ≤ T.length := by
  have q := nodup_len (m := List.range T.length) h.nd fun k hk => List.mem_range.mpr (h.rng k hk)
  rwa [List.length_range] at q
theorem l_pop0 {H : Hp} {Q : VK} {l : Addr} {x : V} {xs : List V} (h : H l = some (.lst (x :: xs))) (q : ∀ H', SameBut l H H' → H' l = some (.lst xs) → Q x H') : rPopAt (.ref l) [.int 0] H Q :=
  ⟨l, x :: xs, 0, 0, x, rfl, rfl, h, by decide, by decide, by rw [List.length_cons]; simp [seqIndex?], rfl, q _ SameBut.upd upd_same⟩
theorem l_dnotin {td ty : TE} {σ : L2.St} {H : Hp} {Q : VK} (q : ty σ H fun y H1 => td σ H1 fun x H2 => ∃ a o, x = .ref a ∧ DGet H2 a y o ∧ Q (.bl (!o.isSome)) H2) : tDNotIn ty td σ H Q := q
def spAround (K : PySem.W.Frag) : Sp := fun vs H Q _ => ∃ (tl : Addr) (u : Nat) (T : Tg), vs = [.ref tl, .int (u : Nat)] ∧ TightAt K H tl T ∧ T.Ok ∧ u < T.length ∧ T.length ≤ 100 ∧
  (∀ p l ws H', p ≠ [] → p.length ≤ 1000 → LWay T u p u → Same H H' → H l = none → H' l = some (.lst ws) → TDs K H' ws (p.map encB) → Q (.ref l) H') ∧ ((∀ p, p ≠ [] → ¬ LWay T u p u) → ∀ H', Same H H' → Q .non H')
theorem sc_around : FnScope ["tight", "first", "rows", "waiting", "at", "to", "setting"] ["tight", "first"] (defScope s_around) := ⟨rfl, rfl, rfl, by decide +kernel, rfl, by decide +kernel, by decide +kernel⟩
theorem ok_around (D : Hd K mg) : OkG P w K mg base "around" ["tight", "first"] 1 (spAround K) := by
  obtain ⟨fd, F⟩ := F_around D
  refine ⟨g_around D, F.kp, fd, F.ok sc_around (fun vs H Q E h => ?_) (fun cdv A outer sS H vs Q E hr h => ?_), F.bindsN fun _ _ _ _ _ _ us hl => match us, hl with | [_, _], _ => rfl⟩
  · obtain ⟨tl, u, T, rfl, _⟩ := h
    rfl
  obtain ⟨tl, u, T, rfl, ht, hT, hu, hz, k1, k0⟩ := h
  refine ⟨_, (PSs.nox (pss_cons (ps_set (i := 2) sc_around.nd rfl (Or.inl rfl) (pe_disp (pps_cons (pv 1) (pe_lst pa_nil) pps_nil) (by rfl) (by rfl) (fun z => by cases z) (by decide)))
      (pss_cons (ps_set (i := 3) sc_around.nd rfl (Or.inl rfl) (pe_lst (pa_cons (pv 1) pa_nil)))
      (pss_cons (ps_while PassesOwn.never (pt_cmpR (op_neDK K (hu64 hr)) (pv 3) (pe_lst pa_nil) (nomark _)) (pss_cons (ps_set (i := 4) sc_around.nd rfl (Or.inl rfl) (pe_bmK K PySem.F.plainAttrs_list PySem.F.slot_list_pop PySem.F.type_list_pop mt_popAt (pv 3) (pa_cons pe_int pa_nil)))
      (pss_one (ps_for PassesOwn.never rfl (pi_listK K (pe_ix (ix_listK K) (pv 0) (pv 4) (fun _ _ => rfl))) (pg_tupK K (n := 2) rfl (pgs_cons (pg_name (i := 5) sc_around.nd rfl (Or.inl rfl)) (pgs_cons (pg_name (i := 6) sc_around.nd rfl (Or.inl rfl)) pgs_nil))) (pss_cons (ps_if (pt_cmpR op_eq (pv 5) (pv 1) (nomark _)) (pss_one (ps_ret (pe_op op_cat (pe_dget (hu_of hr) (pv 2) (pv 4) (fun _ _ => rfl)) (pe_lst (pa_cons (pv 6) pa_nil))))) pss_nil)
      (pss_one (ps_if (pt_cmp (pc_dnotin (hu_of hr) (pv 5) (pv 2))) (pss_cons (ps_dput (hu_of hr) (pv 2) (pv 5) (pe_op op_cat (pe_dget (hu_of hr) (pv 2) (pv 4) (fun _ _ => rfl)) (pe_lst (pa_cons (pv 6) pa_nil))) rfl)
      (pss_one (ps_expr (pe_bmK K PySem.F.plainAttrs_list PySem.F.slot_list_append PySem.F.type_list_append mt_append (pv 3) (pa_cons (pv 5) pa_nil))))) pss_nil)))))))
      (pss_one (ps_ret pe_non)))))), ?_⟩
  walk_at "ga"
  intro rl hrl0
  refine l_pair1 ?_
  walk_at "ga"
  refine l_mkL0 fun la H2 e2 hla0 hla => ?_
  have hrl2 : H2 rl = some (.dK []) := e2 _ _ upd_same
  have nla : la ≠ rl := (ne_of_none upd_same hla0).symm
  refine ⟨hrl2, [(.inl (u : Int), .ref la)], rfl, by show 1 ≤ 15; decide, ?_⟩
  have e3 : Same H (upd H2 rl (.dK (mergeK [] [(.inl (u : Int), .ref la)]))) := same_mut ((same_new hrl0).trans e2) hrl0
  have hrl3 : upd H2 rl (.dK (mergeK [] [(.inl (u : Int), .ref la)])) rl = some (.dK [(.inl (u : Int), .ref la)]) := upd_same
  have hla3 : upd H2 rl (.dK (mergeK [] [(.inl (u : Int), .ref la)])) la = some (.lst []) := by rw [upd_ne nla]; exact hla
  revert e3 hrl3 hla3
  generalize upd H2 rl (.dK (mergeK [] [(.inl (u : Int), .ref la)])) = H3
  intro e3 hrl3 hla3
  walk_at "ga"
  refine l_mkL (by show 1 ≤ sizeLine; decide) fun wl H4 e4 hwl0 hwl => ?_
  walk_at "ga"
  have e04 := e3.trans e4
  have nrw : rl ≠ wl := ne_of_none hrl3 hwl0
  have zw : H wl = none := e3.free hwl0
  have hA0 : ASt K H4 T u rl wl [(.inl (u : Int), .ref la)] [u] 0 := by
    refine ⟨⟨fun p hp => ⟨u, hu, by rw [List.mem_singleton.mp hp]⟩, List.nodup_cons.mpr ⟨(fun z => nomatch z), List.nodup_nil⟩⟩, List.nodup_cons.mpr ⟨(fun z => nomatch z), List.nodup_nil⟩, fun k hk => by rw [List.mem_singleton.mp hk]; exact hu, List.mem_singleton.mpr rfl, fun v => ?_, fun v x hx => ?_⟩
    · by_cases e : v = u
      · subst e
        rw [valV_pos rfl, decide_eq_true (List.mem_singleton.mpr rfl)]
        rfl
      · rw [valV_neg (by intro z; injection z with z; omega), valV_nil, decide_eq_false (fun z => e (List.mem_singleton.mp z))]
        rfl
    · by_cases e : v = u
      · subst e
        rw [valV_pos rfl] at hx
        cases hx
        exact ⟨la, [], [], rfl, nla, ne_of_none hla3 hwl0, e4 _ _ hla3, .nil, .nil, Nat.le_refl _⟩
      · rw [valV_neg (by intro z; injection z with z; omega), valV_nil] at hx
        cases hx
  refine whileN 101 (fun i σ' H' => ∃ (z4 z5 z6 : Option V) (kvs : KV2) (ks : List Nat), σ' = [some (.ref tl), some (.int (u : Nat)), some (.ref rl), some (.ref wl), z4, z5, z6] ∧ Same H H' ∧ H' rl = some (.dK kvs) ∧ H' wl = some (.lst (vNats (ks.drop i))) ∧ ASt K H' T u rl wl kvs ks i ∧ i ≤ ks.length ∧
      ∀ j v, j < i → ks[j]? = some v → ∀ e ∈ T.at v, e.1 ≠ u ∧ e.1 ∈ ks)
    ⟨_, _, _, _, [u], rfl, e04, e4 _ _ hrl3, hwl, hA0, Nat.zero_le _, fun j v hj => by omega⟩ (fun i σ' H5 h => ?_)
  obtain ⟨z4, z5, z6, kvs, ks, rfl, e5, hrl5, hwl5, hA, hi, hcl⟩ := h
  have hkl := hA.len
  walk_at "ga"
  refine l_mkL0 fun le H6 e6 hle0 hle => ?_
  have hd1 : TDs K H6 (vNats (ks.drop i)) ((ks.drop i).map fun n => PyData.int (n : Nat)) := by
    have : ∀ l : List Nat, TDs K H6 (vNats l) (l.map fun n => PyData.int (n : Nat)) := by
      intro l
      induction l with
      | nil => exact .nil
      | cons x l ih => exact .cons (.int _) ih
    exact this _
  have hsh : ∀ l : List Nat, SeqAt.shaped (.list (l.map fun n => PyData.int (n : Nat))) = true := fun l => by
    refine shaped_of ?_ ?_
    · rw [lay_lst]; exact lay_map fun x _ => lay_int
    · rw [dep_lst]
      have := dep_map (f := fun n : Nat => PyData.int (n : Nat)) (n := 0) (l := l) fun x _ => by rw [dep_int]; exact Nat.le_refl _
      omega
  refine l_neD (dpl (SqL.of (e6 _ _ hwl5)) hd1) (dpl (SqL.of hle) .nil) (hsh _) (by decide +kernel) ?_
  walk_at "go"
  rw [eqv_lst]
  by_cases hend : ks.length ≤ i
  · rw [List.drop_of_length_le hend]
    refine l_iF (by rw [List.map_nil, eqvA_nil]; rfl) ?_
    walk_at "ga"
    refine k0 (no_ring hA.k0 fun v hv e he => ?_) H6 (e5.trans e6)
    obtain ⟨j, hj, ej⟩ := List.mem_iff_getElem.mp hv
    exact hcl j v (by omega) (List.getElem?_eq_some_iff.mpr ⟨hj, ej⟩) e he
  · obtain ⟨v, hv⟩ : ∃ v, ks[i]? = some v := ⟨_, List.getElem?_eq_getElem (by omega)⟩
    have hdr := drop_get hv
    rw [hdr]
    refine l_iT (by rw [List.map_cons, eqvA_cn]; rfl) ?_
    refine wturn (by omega) ?_
    walk_at "ga"
    refine ⟨tyv_list (SqL.of (e6 _ _ hwl5)), ?_⟩
    walk_at "ga"
    have hwl6 : H6 wl = some (.lst (V.int (v : Nat) :: vNats (ks.drop (i + 1)))) := by
      have q := e6 _ _ hwl5
      rw [hdr] at q
      exact q
    refine l_pop0 hwl6 fun H7 e7 hwl7 => ?_
    have hwl7 : H7 wl = some (.lst (vNats (ks.drop (i + 1)))) := hwl7
    have e07 : Same H H7 := e7.same (e5.trans e6) zw
    have hrl7 := e7 _ _ nrw (e6 _ _ hrl5)
    have hA7 : ASt K H7 T u rl wl kvs ks (i + 1) := (hA.ex (S := []) (m' := i) (SameEx.of_same e6) NTup.nil (fun x hx => nomatch hx) (Nat.le_refl _)).ex (S := [wl]) (SameEx.of_but e7 List.mem_cons_self) (NTup.cons (nt_lst hwl6) NTup.nil) (fun x hx => .inr (List.mem_singleton.mp hx)) (by omega)
    have hvk : v ∈ ks := List.mem_of_getElem? hv
    have hvT := hA.rng v hvk
    obtain ⟨xv, hxv⟩ := Option.isSome_iff_exists.mp (show (valV kvs (.inl (v : Int))).isSome = true by rw [hA.dom v]; exact decide_eq_true hvk)
    obtain ⟨av, uv, pv, rfl, b1, b2, b3, b4, b5, b6⟩ := (hA.ex (S := []) (m' := i) (SameEx.of_same e6) NTup.nil (fun x hx => nomatch hx) (Nat.le_refl _)).val v xv hxv
    have b37 := e7 _ _ b2 b3
    have b47 : TDs K H7 uv (pv.map encB) := b4.mono (e7.tup hwl6)
    obtain ⟨gs, ar, us, p1, p2, p3, p4⟩ := (ht.same e07).row hvT
    have hul : us.length = (T.at v).length := by rw [p4.length, List.length_map]
    have nar : ar ≠ rl ∧ ar ≠ wl := by
      obtain ⟨gs', ar', us', r1, r2, r3, r4⟩ := ht.row hvT
      have q := e07 _ _ r1
      rw [p1] at q
      cases q
      rw [p2] at r2
      cases r2
      exact ⟨ne_of_none r3 hrl0, ne_of_none r3 zw⟩
    have hS7 : NTup H7 [rl, wl] := NTup.cons (nt_dK hrl7) (NTup.cons (nt_lst hwl7) NTup.nil)
    have zS : ∀ x ∈ [rl, wl], H x = none := fun x hx => by
      rcases List.mem_cons.mp hx with rfl | hx
      · exact hrl0
      · rw [List.mem_singleton.mp hx]; exact zw
    have all : ∀ {H' : Hp}, SameEx [rl, wl] H7 H' → Same H H' := fun e => SameEx.same zS ((SameEx.of_same e07).trans e)
    walk_at "ga"
    refine l_ixL (SqL.of p1) (atI_nat p2) ?_
    refine forL (SqL.of p3) (fun q σ' H' => ∃ (z5 z6 : Option V) (kvs : KV2) (ks2 : List Nat), σ' = [some (.ref tl), some (.int (u : Nat)), some (.ref rl), some (.ref wl), some (.int (v : Nat)), z5, z6] ∧ SameEx [rl, wl] H7 H' ∧ H' rl = some (.dK kvs) ∧ H' wl = some (.lst (vNats (ks2.drop (i + 1)))) ∧
        ASt K H' T u rl wl kvs ks2 (i + 1) ∧ valV kvs (.inl (v : Int)) = some (.ref av) ∧ (∃ t, ks2 = ks ++ t) ∧ ∀ e ∈ (T.at v).take q, e.1 ≠ u ∧ e.1 ∈ ks2)
      ⟨_, _, kvs, ks, rfl, SameEx.refl, hrl7, hwl7, hA7, hxv, ⟨[], (List.append_nil _).symm⟩, fun e he => nomatch he⟩ (fun q σ' H' _ h => ?_) (fun q x σ' H8 hx h => ?_) (fun σ' H8 h => ?_)
    · obtain ⟨_, _, _, _, _, e8, _⟩ := h
      exact SqL.of (e8 _ _ (nin2 nar.1 nar.2) p3)
    · obtain ⟨y5, y6, kvs8, ks8, rfl, e8, hrl8, hwl8, hA8, hxv8, ⟨t8, ht8⟩, hcl8⟩ := h
      obtain ⟨dd, hd1', hx2⟩ := p4.at hx
      rw [List.getElem?_map] at hd1'
      obtain ⟨⟨et, es⟩, he, rfl⟩ := Option.map_eq_some_iff.mp hd1'
      have tup8 : TupX K H7 H8 := e8.tup hS7
      obtain ⟨c, u1, u2, rfl, hc', q1, q2⟩ := (hx2.mono tup8).t2
      cases q1.int_inv
      have hem : (et, es) ∈ T.at v := List.mem_of_getElem? he
      have het : et < T.length := hT.to hem
      have av8 : H8 av = some (.lst uv) := e8 _ _ (nin2 b1 b2) b37
      have hkl8 := hA8.len
      have huv : uv.length ≤ 100 := by rw [b4.length, List.length_map]; omega
      have rdv : ∀ {Q0 : VK}, Q0 (.ref av) H8 → tDGet (tVar 2) (tVar 4) ([some (.ref tl), some (.int (u : Nat)), some (.ref rl), some (.ref wl), some (.int (v : Nat)), some (.int (et : Nat)), some u2] : L2.St) H8 Q0 := fun qq => by
        refine l_dget ?_
        walk_at "ga"
        refine ⟨rl, .ref av, rfl, ?_, qq⟩
        rw [← hxv8]
        exact dget_l (.inl hrl8)
      walk_at "ga"
      by_cases hfu : et = u
      · refine l_iT (decide_eq_true (by rw [hfu])) ?_
        walk_at "ga"
        refine rdv ?_
        walk_at "ga"
        refine l_mkL (by show 1 ≤ sizeLine; decide) fun l9 H9 e9 hl9 hm9 => ?_
        refine l_catN (e9 _ _ av8) hm9 (sz (by show uv.length + 1 ≤ 1000000; omega)) fun l10 H10 e10 hl10 hm10 => ?_
        subst hfu
        refine k1 (pv ++ [es]) l10 _ H10 (by simp) (by rw [List.length_append]; show pv.length + 1 ≤ 1000; omega) (b5.snoc hem) ((all e8).trans (e9.trans e10)) (((all e8).trans e9).free hl10) hm10 ?_
        rw [List.map_append]
        exact tds_same (e9.trans e10) ((b47.mono tup8).append (.one (q2.mono (TupX.same (Same.refl H8)))))
      · refine l_iF (decide_eq_false (by intro z; injection z with z; omega)) ?_
        walk_at "ga"
        refine l_dnotin ?_
        walk_at "ga"
        refine ⟨rl, _, rfl, dget_l (.inl hrl8), ?_⟩
        walk_at "ga"
        rw [hA8.dom et]
        by_cases hin : et ∈ ks8
        · refine l_iF (by rw [decide_eq_true hin]; rfl) ?_
          walk_at "ga"
          refine ⟨_, _, kvs8, ks8, rfl, e8, hrl8, hwl8, hA8, hxv8, ⟨t8, ht8⟩, fun e hh => ?_⟩
          rw [take_get he] at hh
          rcases List.mem_append.mp hh with hh | hh
          · exact hcl8 e hh
          · rw [List.mem_singleton.mp hh]; exact ⟨hfu, hin⟩
        · refine l_iT (by rw [decide_eq_false hin]; rfl) ?_
          walk_at "go"
          refine l_dput ?_
          walk_at "ga"
          refine rdv ?_
          walk_at "ga"
          refine l_mkL (by show 1 ≤ sizeLine; decide) fun l9 H9 e9 hl9 hm9 => ?_
          refine l_catN (e9 _ _ av8) hm9 (sz (by show uv.length + 1 ≤ 1000000; omega)) fun l10 H10 e10 hl10 hm10 => ?_
          walk_at "ga"
          have e810 := e9.trans e10
          have hrl10 := e810 _ _ hrl8
          have hwl10 := e810 _ _ hwl8
          have n10r : l10 ≠ rl := ne_of_none (e9 _ _ hrl8) hl10 |>.symm
          have n10w : l10 ≠ wl := ne_of_none (e9 _ _ hwl8) hl10 |>.symm
          have hkv8 := hA8.nk.len
          refine ⟨rl, _, rfl, DPut.k (k := .inl (et : Int)) hrl10 (szl (by omega)), ?_⟩
          have s11 : SameBut rl H10 (upd H10 rl (.dK (putK kvs8 (.inl (et : Int)) (.ref l10)))) := SameBut.upd
          have r11 : upd H10 rl (.dK (putK kvs8 (.inl (et : Int)) (.ref l10))) rl = some (.dK (putK kvs8 (.inl (et : Int)) (.ref l10))) := upd_same
          revert s11 r11
          generalize upd H10 rl (.dK (putK kvs8 (.inl (et : Int)) (.ref l10))) = H11
          intro s11 r11
          have hwl11 := s11 _ _ nrw.symm hwl10
          walk_at "ga"
          refine ⟨tyv_list (SqL.of hwl11), ?_⟩
          walk_at "ga"
          refine l_appN hwl11 (szl (by rw [vNats_len, List.length_drop]; omega)) fun H12 e12 hm12 => ?_
          have S12 : SameEx [rl, wl] H8 H12 := (SameEx.of_same e810).trans ((SameEx.of_but s11 List.mem_cons_self).trans (SameEx.of_but e12 (List.mem_cons_of_mem _ List.mem_cons_self)))
          have hS8 : NTup H8 [rl, wl] := NTup.cons (nt_dK hrl8) (NTup.cons (nt_lst hwl8) NTup.nil)
          have hA12 := hA8.ex (m' := i + 1) S12 hS8 (fun x hx => by
            rcases List.mem_cons.mp hx with rfl | hx
            · exact .inl rfl
            · exact .inr (List.mem_singleton.mp hx)) (Nat.le_refl _)
          have hik : i + 1 ≤ ks8.length := by rw [ht8, List.length_append]; omega
          have t12 : TupX K H10 H12 := ((LT.but (K := K) hrl10 s11).2).trans (e12.tup hwl11)
          have hetv : et ≠ v := fun z => hin (by rw [z, ht8]; exact List.mem_append_left _ hvk)
          refine ⟨_, _, _, ks8 ++ [et], rfl, e8.trans S12, e12 _ _ nrw r11, ?_, ⟨hA12.nk.put het _, ?_, ?_, ?_, fun x => ?_, fun x y hy => ?_⟩, ?_, ⟨t8 ++ [et], by rw [ht8, List.append_assoc]⟩, fun e hh => ?_⟩
          · rw [hm12, List.drop_append_of_le_length hik, vNats_snoc]
          · refine List.nodup_append.mpr ⟨hA8.nd, List.nodup_cons.mpr ⟨(fun z => nomatch z), List.nodup_nil⟩, fun a ha c hc => ?_⟩
            rw [List.mem_singleton.mp hc]
            rintro rfl
            exact hin ha
          · intro k hk
            rcases List.mem_append.mp hk with hk | hk
            · exact hA8.rng k hk
            · rw [List.mem_singleton.mp hk]; exact het
          · exact List.mem_append_left _ hA8.k0
          · rw [valV_put]
            by_cases e : x = et
            · subst e
              rw [if_pos rfl, decide_eq_true (List.mem_append_right _ (List.mem_singleton.mpr rfl))]
              rfl
            · rw [if_neg (by intro z; injection z with z; omega), hA8.dom x]
              refine decide_eq_decide.mpr ⟨List.mem_append_left _, fun z => ?_⟩
              rcases List.mem_append.mp z with z | z
              · exact z
              · exact absurd (List.mem_singleton.mp z) e
          · rw [valV_put] at hy
            by_cases e : x = et
            · subst e
              rw [if_pos rfl] at hy
              cases hy
              refine ⟨l10, _, pv ++ [es], rfl, n10r, n10w, e12 _ _ n10w (s11 _ _ n10r hm10), ?_, b5.snoc hem, by rw [List.length_append]; show pv.length + 1 ≤ i + 1; omega⟩
              rw [List.map_append]
              exact (tds_same e810 ((b47.mono tup8).append (.one q2))).mono t12
            · rw [if_neg (by intro z; injection z with z; omega)] at hy
              exact hA12.val x y hy
          · rw [valV_put, if_neg (by intro z; injection z with z; omega)]
            exact hxv8
          · rw [take_get he] at hh
            rcases List.mem_append.mp hh with hh | hh
            · obtain ⟨c1, c2⟩ := hcl8 e hh
              exact ⟨c1, List.mem_append_left _ c2⟩
            · rw [List.mem_singleton.mp hh]; exact ⟨hfu, List.mem_append_right _ (List.mem_singleton.mpr rfl)⟩
    · obtain ⟨y5, y6, kvs8, ks8, rfl, e8, hrl8, hwl8, hA8, hxv8, ⟨t8, ht8⟩, hcl8⟩ := h
      rw [hul, List.take_length] at hcl8
      refine ⟨_, _, _, kvs8, ks8, rfl, all e8, hrl8, hwl8, hA8, ?_, fun j x hj hx e he => ?_⟩
      · rw [ht8, List.length_append]; omega
      · rw [ht8, List.getElem?_append_left (by omega)] at hx
        by_cases hji : j = i
        · subst hji
          rw [hv] at hx
          cases hx
          exact hcl8 e he
        · obtain ⟨c1, c2⟩ := hcl j x (by omega) hx e he
          exact ⟨c1, by rw [ht8]; exact List.mem_append_left _ c2⟩
end
/-! ### ways: pigeonhole, bounds -/
/-- either all nodes of a way differ, or it holds a ring -/
theorem Way.split {G : Gr} (hG : G.Ok) {k u v : Nat} {x : Int} (h : Way G k u v x) (hu : u < G.length) :
    (∃ ns : List Nat, ns.length = k + 1 ∧ ns.Nodup ∧ (∀ y ∈ ns, y < G.length) ∧ ∀ y ∈ ns, ∃ i x1 x2, i ≤ k ∧ Way G i u y x1 ∧ Way G (k - i) y v x2 ∧ x1 + x2 = x) ∨
    (∃ a c b y x1 x2 x3, 1 ≤ c ∧ a + c + b = k ∧ Way G a u y x1 ∧ Way G c y y x2 ∧ Way G b y v x3 ∧ x1 + x2 + x3 = x) := by
  induction h with
  | nil u => exact .inl ⟨[u], rfl, List.nodup_cons.mpr ⟨(fun z => nomatch z), List.nodup_nil⟩, fun y hy => by rw [List.mem_singleton.mp hy]; exact hu, fun y hy => ⟨0, 0, 0, Nat.zero_le _, by rw [List.mem_singleton.mp hy]; exact .nil u, by rw [List.mem_singleton.mp hy]; exact .nil u, rfl⟩⟩
  | @snoc k u v x l t hw he ih =>
    rcases ih hu with ⟨ns, h1, h2, h3, h4⟩ | ⟨a, c, b, y, x1, x2, x3, h1, h2, h3, h4, h5, h6⟩
    · by_cases ht : t ∈ ns
      · obtain ⟨i, x1, x2, g1, g2, g3, g4⟩ := h4 t ht
        refine .inr ⟨i, k - i + 1, 0, t, x1, x2 + l, 0, by omega, by omega, g2, g3.snoc he, .nil t, by omega⟩
      · refine .inl ⟨ns ++ [t], by rw [List.length_append, h1]; rfl, ?_, fun y hy => ?_, fun y hy => ?_⟩
        · refine List.nodup_append.mpr ⟨h2, List.nodup_cons.mpr ⟨(fun z => nomatch z), List.nodup_nil⟩, fun a ha c hc => ?_⟩
          rw [List.mem_singleton.mp hc]
          rintro rfl
          exact ht ha
        · rcases List.mem_append.mp hy with hy | hy
          · exact h3 y hy
          · rw [List.mem_singleton.mp hy]; exact hG.to he
        · rcases List.mem_append.mp hy with hy | hy
          · obtain ⟨i, x1, x2, g1, g2, g3, g4⟩ := h4 y hy
            refine ⟨i, x1, x2 + l, by omega, g2, ?_, by omega⟩
            rw [show k + 1 - i = (k - i) + 1 by omega]
            exact g3.snoc he
          · rw [List.mem_singleton.mp hy]
            refine ⟨k + 1, x + l, 0, Nat.le_refl _, hw.snoc he, ?_, by omega⟩
            rw [Nat.sub_self]
            exact .nil t
    · exact .inr ⟨a, c, b + 1, y, x1, x2, x3 + l, h1, by omega, h3, h4, h5.snoc he, by omega⟩
/-- a long way holds a ring -/
theorem Way.pigeon {G : Gr} (hG : G.Ok) {k u v : Nat} {x : Int} (h : Way G k u v x) (hu : u < G.length) (hk : G.length ≤ k) :
    ∃ a c b y x1 x2 x3, 1 ≤ c ∧ a + c + b = k ∧ Way G a u y x1 ∧ Way G c y y x2 ∧ Way G b y v x3 ∧ x1 + x2 + x3 = x := by
  rcases h.split hG hu with ⟨ns, h1, h2, h3, _⟩ | h
  · have := nodup_len (m := List.range G.length) h2 fun y hy => List.mem_range.mpr (h3 y hy)
    rw [List.length_range, h1] at this
    omega
  · exact h
theorem Way.shorter {G : Gr} (hG : G.Ok) (h0 : 0 < G.length) {v : Nat} {x : Int} (h : Way G G.length 0 v x) : ∃ k y, k < G.length ∧ Way G k 0 v y := by
  obtain ⟨a, c, b, y, x1, x2, x3, h1, h2, h3, _, h5, _⟩ := h.pigeon hG h0 (Nat.le_refl _)
  exact ⟨a + b, x1 + x3, by omega, h3.app h5⟩
/-- losses within 0..L -/
def Gr.Bd (G : Gr) (L : Int) : Prop := ∀ es ∈ G, ∀ e ∈ es, 0 ≤ e.1 ∧ e.1 ≤ L
theorem Way.bd {G : Gr} {L : Int} (hb : G.Bd L) {k u v : Nat} {x : Int} (h : Way G k u v x) : 0 ≤ x ∧ x ≤ L * (k : Nat) := by
  induction h with
  | nil => exact ⟨Int.le_refl _, by omega⟩
  | @snoc k u v x l t hw he ih =>
    have hv := Gr.at_mem he
    have := hb _ (List.mem_of_getElem? (Gr.at_get hv)) _ he
    rw [show ((k + 1 : Nat) : Int) = (k : Int) + 1 by omega, Int.mul_add, Int.mul_one]
    have h1 : 0 ≤ l ∧ l ≤ L := this
    omega
/-- the greatest weight is there -/
theorem MaxW.ex {G : Gr} {L : Int} (hb : G.Bd L) {k v : Nat} {x : Int} (h : Way G k 0 v x) : ∃ y, MaxW G k v y ∧ x ≤ y := by
  have key : ∀ (n : Nat) (x : Int), (L * (k : Nat) - x).toNat ≤ n → Way G k 0 v x → ∃ y, MaxW G k v y ∧ x ≤ y := by
    intro n
    induction n with
    | zero =>
      intro x hn hw
      have := (hw.bd hb).2
      exact ⟨x, ⟨hw, fun z hz => by have := (hz.bd hb).2; omega⟩, Int.le_refl _⟩
    | succ n ih =>
      intro x hn hw
      by_cases hm : ∃ z, Way G k 0 v z ∧ x < z
      · obtain ⟨z, hz, hxz⟩ := hm
        have := (hz.bd hb).2
        obtain ⟨y, h1, h2⟩ := ih z (by omega) hz
        exact ⟨y, h1, by omega⟩
      · exact ⟨x, ⟨hw, fun z hz => Int.not_lt.mp fun q => hm ⟨z, hz, q⟩⟩, Int.le_refl _⟩
  exact key _ x (Nat.le_refl _) h
/-! ### the mean is the greatest, and it is met -/
theorem adj_app (up down : Int) (k m : Nat) (x y : Int) : adj up down (k + m) (x + y) = adj up down k x + adj up down m y := by
  unfold adj
  rw [Int.mul_add, show ((k + m : Nat) : Int) = (k : Int) + (m : Int) by omega, Int.mul_add]
  omega
/-- a way of any length is outdone by a short one -/
theorem dom_short {G : Gr} {L up down : Int} (hG : G.Ok) (h0 : 0 < G.length) (hb : G.Bd L) (hd : 0 < down) (hA : MeanA G G.length up down) :
    ∀ (n k v : Nat) (x : Int), k ≤ n → Way G k 0 v x → ∃ k' x', k' < G.length ∧ Way G k' 0 v x' ∧ adj up down k x ≤ adj up down k' x' := by
  intro n
  induction n with
  | zero =>
    intro k v x hk hw
    exact ⟨k, x, by omega, hw, Int.le_refl _⟩
  | succ n ih =>
    intro k v x hk hw
    by_cases hs : k < G.length
    · exact ⟨k, x, hs, hw, Int.le_refl _⟩
    · -- the first n edges
      have cutw : ∀ {u k v : Nat} {x : Int}, Way G k u v x → ∀ m, m ≤ k → ∃ y x1 x2, Way G m u y x1 ∧ Way G (k - m) y v x2 ∧ x1 + x2 = x := by
        intro u k v x h
        induction h with
        | nil u => intro m hm; exact ⟨_, 0, 0, by rw [Nat.le_zero.mp hm]; exact .nil _, by rw [Nat.le_zero.mp hm]; exact .nil _, rfl⟩
        | @snoc k u v x l t hw he ih2 =>
          intro m hm
          by_cases e : m = k + 1
          · subst e
            exact ⟨t, x + l, 0, hw.snoc he, by rw [Nat.sub_self]; exact .nil t, by omega⟩
          · obtain ⟨y, x1, x2, g1, g2, g3⟩ := ih2 m (by omega)
            refine ⟨y, x1, x2 + l, g1, ?_, by omega⟩
            rw [show k + 1 - m = (k - m) + 1 by omega]
            exact g2.snoc he
      obtain ⟨y, x1, x2, g1, g2, g3⟩ := cutw hw G.length (by omega)
      obtain ⟨xm, hxm, hle⟩ := MaxW.ex hb g1
      obtain ⟨k', ym, h1, h2, h3⟩ := hA y xm hxm
      have hw2 := h2.1.app g2
      obtain ⟨k3, x3, f1, f2, f3⟩ := ih (k' + (k - G.length)) v (ym + x2) (by omega) hw2
      refine ⟨k3, x3, f1, f2, Int.le_trans ?_ f3⟩
      have e1 : adj up down k x = adj up down G.length x1 + adj up down (k - G.length) x2 := by
        rw [← adj_app, g3, show G.length + (k - G.length) = k by omega]
      rw [e1, adj_app]
      have e2 : adj up down G.length x1 ≤ adj up down k' ym := by
        have m1 := Int.mul_le_mul_of_nonneg_left hle (c := down) (by omega)
        have e4 : (xm - ym) * down = down * xm - down * ym := by rw [Int.sub_mul, Int.mul_comm xm, Int.mul_comm ym]
        have e5 : up * ((G.length : Int) - (k' : Nat)) = up * (G.length : Nat) - up * (k' : Nat) := Int.mul_sub ..
        rw [e4, e5] at h3
        unfold adj
        omega
      omega
/-- no ring weighs more than nothing -/
theorem no_pos {G : Gr} {L up down : Int} (hG : G.Ok) (h0 : 0 < G.length) (hb : G.Bd L) (hL : 0 ≤ L) (hd : 0 < down) (hA : MeanA G G.length up down) {v k0 c : Nat} {x0 x : Int} (hr : Way G k0 0 v x0) (hw : Way G c v v x) : adj up down c x ≤ 0 := by
  refine Int.not_lt.mp fun hp => ?_
  have rep : ∀ r : Nat, ∃ k y, Way G k 0 v y ∧ adj up down k0 x0 + (r : Nat) ≤ adj up down k y := by
    intro r
    induction r with
    | zero => exact ⟨k0, x0, hr, by omega⟩
    | succ r ih =>
      obtain ⟨k, y, h1, h2⟩ := ih
      refine ⟨k + c, y + x, h1.app hw, ?_⟩
      rw [adj_app]
      omega
  have bound : ∀ k y, Way G k 0 v y → adj up down k y ≤ down * (L * (G.length : Nat)) + (up.natAbs : Nat) * (G.length : Nat) := fun k y h => by
    obtain ⟨k', x', h1, h2, h3⟩ := dom_short hG h0 hb hd hA k k v y (Nat.le_refl _) h
    refine Int.le_trans h3 ?_
    have b1 := (h2.bd hb).2
    have b2 : L * (k' : Nat) ≤ L * (G.length : Nat) := Int.mul_le_mul_of_nonneg_left (by omega) hL
    have b3 : down * x' ≤ down * (L * (G.length : Nat)) := Int.mul_le_mul_of_nonneg_left (Int.le_trans b1 b2) (by omega)
    have b4 : -(up * (k' : Nat)) ≤ (up.natAbs : Nat) * (k' : Nat) := by
      rw [← Int.neg_mul]
      exact Int.mul_le_mul_of_nonneg_right (by omega) (by omega)
    have b5 : (up.natAbs : Int) * (k' : Nat) ≤ (up.natAbs : Nat) * (G.length : Nat) := Int.mul_le_mul_of_nonneg_left (by omega) (by omega)
    unfold adj
    omega
  obtain ⟨k, y, h1, h2⟩ := rep ((down * (L * (G.length : Nat)) + (up.natAbs : Nat) * (G.length : Nat) - adj up down k0 x0 + 1).toNat)
  have := bound k y h1
  omega
/-- a ring of no weight -/
theorem zero_ring {G : Gr} {L up down : Int} (hG : G.Ok) (h0 : 0 < G.length) (hb : G.Bd L) (hL : 0 ≤ L) (hd : 0 < down) (hA : MeanA G G.length up down) (hB : MeanB G G.length up down) :
    ∃ k0 c y x0 x, 1 ≤ c ∧ Way G k0 0 y x0 ∧ Way G c y y x ∧ adj up down c x = 0 := by
  obtain ⟨v, x, hx, hmin⟩ := hB
  obtain ⟨a, c, b, y, x1, x2, x3, h1, h2, h3, h4, h5, h6⟩ := hx.1.pigeon hG h0 (Nat.le_refl _)
  refine ⟨a, c, y, x1, x2, h1, h3, h4, Int.le_antisymm (no_pos hG h0 hb hL hd hA h3 h4) ?_⟩
  obtain ⟨z, hz, hle⟩ := MaxW.ex hb (h3.app h5)
  have h7 := hmin (a + b) z (by omega) hz
  have e4 : (x - z) * down = down * x - down * z := by rw [Int.sub_mul, Int.mul_comm x, Int.mul_comm z]
  have e5 : up * ((G.length : Int) - ((a + b : Nat) : Int)) = up * (G.length : Nat) - up * ((a + b : Nat) : Int) := Int.mul_sub ..
  have e6 : adj up down G.length x = adj up down (a + b) (x1 + x3) + adj up down c x2 := by
    rw [← adj_app, show a + b + c = G.length by omega, show x1 + x3 + x2 = x by omega]
  have m1 := Int.mul_le_mul_of_nonneg_left hle (c := down) (by omega)
  rw [e4, e5] at h7
  unfold adj at e6 ⊢
  omega
/-! ### tight edges -/
def tightRow (G : Gr) (S : List Play) (up down : Int) (h : Nat → Int) (u : Nat) : List (Nat × List Bool) :=
  (((G.at u).zip (S.getD u [])).filter fun p => decide (h u + down * p.1.1 - up = h p.1.2)).map fun p => (p.1.2, p.2)
def tightT (G : Gr) (S : List Play) (up down : Int) (h : Nat → Int) : Tg := (List.range G.length).map (tightRow G S up down h)
def Feas (G : Gr) (up down : Int) (h : Nat → Int) : Prop := ∀ u, ∀ e ∈ G.at u, h u + down * e.1 - up ≤ h e.2
theorem tightT_at {G : Gr} {S : List Play} {up down : Int} {h : Nat → Int} {u : Nat} (hu : u < G.length) : (tightT G S up down h).at u = tightRow G S up down h u := by
  unfold Tg.at tightT
  rw [List.getD_eq_getElem?_getD, List.getElem?_map, List.getElem?_range hu]
  rfl
theorem adj_snoc (up down : Int) (k : Nat) (x l : Int) : adj up down (k + 1) (x + l) = adj up down k x + (down * l - up) := by
  unfold adj
  rw [Int.mul_add, show ((k + 1 : Nat) : Int) = (k : Int) + 1 by omega, Int.mul_add, Int.mul_one]
  omega
theorem Feas.way {G : Gr} {up down : Int} {h : Nat → Int} (hf : Feas G up down h) {k u v : Nat} {x : Int} (hw : Way G k u v x) : adj up down k x ≤ h v - h u := by
  induction hw with
  | nil u => unfold adj; omega
  | @snoc k u v x l t hw he ih =>
    have := hf v (l, t) he
    have h2 : h v + down * l - up ≤ h t := this
    rw [adj_snoc]
    omega
/-- a way without slack goes along tight edges -/
theorem Feas.tight {G : Gr} {S : List Play} {up down : Int} {h : Nat → Int} (hf : Feas G up down h) (hS : ∀ u, u < G.length → (S.getD u []).length = (G.at u).length) {k u v : Nat} {x : Int} (hw : Way G k u v x) : adj up down k x = h v - h u → ∃ p : Play, p.length = k ∧ LWay (tightT G S up down h) u p v := by
  induction hw with
  | nil u => exact fun _ => ⟨[], rfl, .nil⟩
  | @snoc k u v x l t hw he ih =>
    intro e
    have h1 := hf.way hw
    have h2 : h v + down * l - up ≤ h t := hf v (l, t) he
    rw [adj_snoc] at e
    obtain ⟨p, p1, p2⟩ := ih (by omega)
    have hv := Gr.at_mem he
    obtain ⟨i, hi, ei⟩ := List.mem_iff_getElem.mp he
    have hi2 : i < (S.getD v []).length := by rw [hS v hv]; exact hi
    refine ⟨p ++ [(S.getD v [])[i]], by rw [List.length_append, p1]; rfl, p2.snoc ?_⟩
    rw [tightT_at hv]
    unfold tightRow
    refine List.mem_map.mpr ⟨((l, t), (S.getD v [])[i]), List.mem_filter.mpr ⟨?_, decide_eq_true (by show h v + down * l - up = h t; omega)⟩, rfl⟩
    refine List.mem_iff_getElem.mpr ⟨i, by rw [List.length_zip]; omega, ?_⟩
    rw [List.getElem_zip, ei]
/-- a labelled way of the graph -/
inductive RWay (G : Gr) (S : List Play) (u : Nat) : Play → Nat → Int → Prop
  | nil : RWay G S u [] u 0
  | snoc {p : Play} {v : Nat} {x l : Int} {t i : Nat} {s : List Bool} : RWay G S u p v x → (G.at v)[i]? = some (l, t) → (S.getD v [])[i]? = some s → RWay G S u (p ++ [s]) t (x + l)
theorem LWay.rway {G : Gr} {S : List Play} {up down : Int} {h : Nat → Int} {u : Nat} {p : Play} {v : Nat} (hw : LWay (tightT G S up down h) u p v) : ∃ x, RWay G S u p v x ∧ adj up down p.length x = h v - h u := by
  induction hw with
  | nil => exact ⟨0, .nil, by unfold adj; show down * 0 - up * (0 : Nat) = _; omega⟩
  | @snoc p v t s hw he ih =>
    obtain ⟨x, h1, h2⟩ := ih
    have hv : v < G.length := by
      refine Classical.byContradiction fun q => ?_
      unfold Tg.at tightT at he
      rw [List.getD_eq_getElem?_getD, List.getElem?_eq_none (by rw [List.length_map, List.length_range]; omega), Option.getD_none] at he
      cases he
    rw [tightT_at hv] at he
    unfold tightRow at he
    obtain ⟨⟨⟨l, t'⟩, s'⟩, hm, e⟩ := List.mem_map.mp he
    cases e
    obtain ⟨hm1, hm2⟩ := List.mem_filter.mp hm
    have hm2 : h v + down * l - up = h t' := of_decide_eq_true hm2
    obtain ⟨i, hi, ei⟩ := List.mem_iff_getElem.mp hm1
    rw [List.getElem_zip] at ei
    rw [List.length_zip] at hi
    injection ei with e1 e2
    refine ⟨x + l, h1.snoc (i := i) (List.getElem?_eq_some_iff.mpr ⟨by omega, e1⟩) (List.getElem?_eq_some_iff.mpr ⟨by omega, e2⟩), ?_⟩
    rw [List.length_append]
    show adj up down (p.length + 1) (x + l) = h t' - h u
    rw [adj_snoc, h2]
    omega
theorem tightT_ok {G : Gr} {S : List Play} {up down : Int} {h : Nat → Int} (hG : G.Ok) : (tightT G S up down h).Ok := by
  intro es hes e he
  unfold tightT at hes ⊢
  obtain ⟨u, hu, rfl⟩ := List.mem_map.mp hes
  unfold tightRow at he
  obtain ⟨⟨⟨l, t⟩, s⟩, hm, rfl⟩ := List.mem_map.mp he
  rw [List.length_map, List.length_range]
  obtain ⟨hm1, _⟩ := List.mem_filter.mp hm
  exact hG.to (e := (l, t)) (List.of_mem_zip hm1).1
section
variable {P : Program} {w : World} {K : PySem.W.Frag} {mg : Str → Option Value} {base : Heap}
theorem SetsAt.row {H : Hp} {l : Addr} {S : List Play} (h : SetsAt K H l S) {v : Nat} (hv : v < S.length) : ∃ gs a us, H l = some (.lst gs) ∧ gs[v]? = some (.ref a) ∧ H a = some (.lst us) ∧ TDs K H us ((S.getD v []).map encB) := by
  obtain ⟨gs, h1, h2⟩ := h
  obtain ⟨u, hu, a, us, rfl, h3, h4⟩ := paired_get h2 (List.getElem?_eq_getElem hv)
  refine ⟨gs, a, us, h1, hu, h3, ?_⟩
  rw [List.getD_eq_getElem?_getD, List.getElem?_eq_getElem hv, Option.getD_some]
  exact h4
def hOf (hs : Hs) (v : Nat) : Int := ((hs[v]?).getD none).getD 0
def spRing (K : PySem.W.Frag) : Sp := fun vs H Q _ => ∃ (a : Addr) (J : JA) (b : Book) (M : Mach) (r : Res) (up down : Int), vs = [.ref a, .int up, .int down] ∧ JAt K H a J b M r ∧ Gr.Ok r.2.1 ∧ 0 < r.2.1.length ∧ r.2.1.length ≤ 100 ∧ r.1.pairs.length = r.2.1.length ∧ r.2.2.length = r.2.1.length ∧
  (∀ es ∈ r.2.1, ∀ e ∈ es, 0 ≤ e.1 ∧ e.1 ≤ 1000) ∧ (∀ u, u < r.2.1.length → (r.2.2.getD u []).length = (r.2.1.at u).length) ∧ (∀ u, (r.2.1.at u).length ≤ 100) ∧
  (∀ v k w, Way r.2.1 k 0 v w → ∃ k' w', k' < r.2.1.length ∧ Way r.2.1 k' 0 v w' ∧ adj up down k w ≤ adj up down k' w') ∧ (∀ v, v < r.2.1.length → ∃ k x, Way r.2.1 k 0 v x) ∧
  (∀ h, Feas r.2.1 up down h → ∃ v p, v < r.2.1.length ∧ p ≠ [] ∧ LWay (tightT r.2.1 r.2.2 up down h) v p v) ∧
  ∀ h v p l ws c H', Feas r.2.1 up down h → v < r.2.1.length → p ≠ [] → p.length ≤ 1000 → LWay (tightT r.2.1 r.2.2 up down h) v p v → Same H H' → H' l = some (.lst ws) → TDs K H' ws (p.map encB) → SqT K H' c [.int (v : Nat), .ref l] → Q (.ref c) H'
/-- the fixpoint is feasible, all heights being there -/
theorem feas_of {G : Gr} {up down : Int} {hs : Hs} (h1 : HOk G up down hs) (h2 : HCov G up down 0 hs) (h3 : HDone G up down hs hs G.length 0) (hr : ∀ v, v < G.length → ∃ k x, Way G k 0 v x) :
    (∀ v, v < G.length → hs[v]? = some (some (hOf hs v))) ∧ Feas G up down (hOf hs) := by
  have all : ∀ {k u v : Nat} {x : Int}, Way G k u v x → u = 0 → ∃ y, hs[v]? = some (some y) := by
    intro k u v x h
    induction h with
    | nil u =>
      rintro rfl
      obtain ⟨y, g, _⟩ := h2 0 0 0 (Nat.le_refl _) (.nil 0)
      exact ⟨y, g⟩
    | @snoc k u v x l t hw he ih =>
      intro hu
      obtain ⟨y, hy⟩ := ih hu
      obtain ⟨i, hi, ei⟩ := List.mem_iff_getElem.mp he
      obtain ⟨z, g, _⟩ := h3 v i l t y (List.getElem?_eq_some_iff.mpr ⟨hi, ei⟩) (.inl (Gr.at_mem he)) hy
      exact ⟨z, g⟩
  have A : ∀ v, v < G.length → hs[v]? = some (some (hOf hs v)) := fun v hv => by
    obtain ⟨k, x, hw⟩ := hr v hv
    obtain ⟨y, hy⟩ := all hw rfl
    unfold hOf
    rw [hy]
    rfl
  refine ⟨A, fun u e he => ?_⟩
  have hu := Gr.at_mem he
  obtain ⟨i, hi, ei⟩ := List.mem_iff_getElem.mp he
  obtain ⟨z, g1, g2⟩ := h3 u i e.1 e.2 _ (List.getElem?_eq_some_iff.mpr ⟨hi, ei⟩) (.inl hu) (A u hu)
  have : hOf hs e.2 = z := by unfold hOf; rw [g1]; rfl
  rw [this]
  exact g2
theorem sc_Judge_ring : FnScope ["self", "up", "down", "heights", "tight", "at", "some", "loss", "to", "setting", "first", "found"] ["self", "up", "down"] (defScope s_Judge_ring) := ⟨rfl, rfl, rfl, by decide +kernel, rfl, by decide +kernel, by decide +kernel⟩
theorem ok_Judge_ring (D : Hd K mg) : OkM P w K mg base "Judge" "ring" ["self", "up", "down"] 2 (spRing K) := by
  have G_Judge_heights := ok_Judge_heights (P := P) (w := w) (base := base) D
  have G_around := ok_around (P := P) (w := w) (base := base) D
  obtain ⟨fd, F⟩ := F_Judge_ring D
  refine ⟨cl_Judge D, mt_Judge_ring D, fd, F.ok sc_Judge_ring (fun vs H Q E h => ?_) (fun cdv A outer sS H vs Q E hr h => ?_), F.bindsN fun _ _ _ _ _ _ us hl => match us, hl with | [_, _, _], _ => rfl⟩
  · obtain ⟨a, J, b, M, r, up, down, rfl, _⟩ := h
    rfl
  obtain ⟨a, J, b, M, ⟨s, G, S⟩, up, down, rfl, hJ, hG, h0, hz, hpl, hSl, hlo, hSr, hGr, hd, hr', hring, k⟩ := h
  simp only at hG h0 hz hpl hSl hlo hSr hGr hd hr' hring k
  refine ⟨_, (PSs.nox (pss_cons (ps_set (i := 3) sc_Judge_ring.nd rfl (Or.inl rfl) (pe_mtK K (pv 0) G_Judge_heights hr (pa_cons (pv 1) (pa_cons (pv 2) pa_nil))))
      (pss_cons (ps_set (i := 4) sc_Judge_ring.nd rfl (Or.inl rfl) (pe_lst pa_nil))
      (pss_cons (ps_for PassesOwn.never rfl (pi_range1 (by rfl) (g_range D) (pa_cons (pe_callB (cl_lenK K) (by rfl) (g_len D) (by decide +kernel) (pa_cons (pe_fldK K (pv 0)) pa_nil)) pa_nil)) (pg_name (i := 5) sc_Judge_ring.nd rfl (Or.inl rfl)) (pss_cons (ps_set (i := 6) sc_Judge_ring.nd rfl (Or.inl rfl) (pe_lst pa_nil))
      (pss_cons (ps_for PassesOwn.never rfl (pi_zipK K (by rfl) (g_zip D) (pa_cons (pe_ix (ix_listK K) (pe_fldK K (pv 0)) (pv 5) (fun _ _ => rfl)) (pa_cons (pe_ix (ix_listK K) (pe_fldK K (pv 0)) (pv 5) (fun _ _ => rfl)) pa_nil))) (pg_tupK K (n := 2) rfl (pgs_cons (pg_tupK K (n := 2) rfl (pgs_cons (pg_name (i := 7) sc_Judge_ring.nd rfl (Or.inl rfl)) (pgs_cons (pg_name (i := 8) sc_Judge_ring.nd rfl (Or.inl rfl)) pgs_nil))) (pgs_cons (pg_name (i := 9) sc_Judge_ring.nd rfl (Or.inl rfl)) pgs_nil))) (pss_one (ps_if (pt_cmpR op_eq (pe_op op_sub (pe_op op_add (pe_ix (ix_listK K) (pv 3) (pv 5) (fun _ _ => rfl)) (pe_op op_mul (pv 2) (pv 7))) (pv 1)) (pe_ix (ix_listK K) (pv 3) (pv 8) (fun _ _ => rfl)) (nomark _)) (pss_one (ps_expr (pe_bmK K PySem.F.plainAttrs_list PySem.F.slot_list_append PySem.F.type_list_append mt_append (pv 6) (pa_cons (pe_tup (pa_cons (pv 8) (pa_cons (pv 9) pa_nil))) pa_nil)))) pss_nil)))
      (pss_one (ps_expr (pe_bmK K PySem.F.plainAttrs_list PySem.F.slot_list_append PySem.F.type_list_append mt_append (pv 4) (pa_cons (pv 6) pa_nil)))))))
      (pss_one (ps_for PassesOwn.never rfl (pi_range1 (by rfl) (g_range D) (pa_cons (pe_callB (cl_lenK K) (by rfl) (g_len D) (by decide +kernel) (pa_cons (pe_fldK K (pv 0)) pa_nil)) pa_nil)) (pg_name (i := 10) sc_Judge_ring.nd rfl (Or.inl rfl)) (pss_cons (ps_set (i := 11) sc_Judge_ring.nd rfl (Or.inl rfl) (pe_cl G_around hr (pa_cons (pv 4) (pa_cons (pv 10) pa_nil))))
      (pss_one (ps_if (pt_cmpR op_isnt0 (pv 11) pe_non (nomark _)) (pss_one (ps_ret (pe_tup (pa_cons (pv 10) (pa_cons (pv 11) pa_nil))))) pss_nil))))))))), ?_⟩
  walk_at "ga"
  refine l_meth ?_
  walk_at "ga"
  refine l_Jm hJ.fx.obj (by rfl) ?_
  walk_at "ga"
  refine ⟨a, J, b, M, (s, G, S), up, down, rfl, hJ, hG, h0, hz, hpl, hlo, hd, fun hl H1 hs e1 hl0 hlm o1 o2 o3 => ?_⟩
  obtain ⟨hall, hf⟩ := feas_of o1 o2 o3 hr'
  walk_at "ga"
  refine l_mkL0 fun tl H2 e2 htl0 htl => ?_
  have e02 := e1.trans e2
  have hJ2 := hJ.same e02
  obtain ⟨wp, hpl1, hpd⟩ := hJ2.pr.pr
  have hwp : wp.length = G.length := by rw [hpd.length, List.length_map]; exact hpl
  have hlm2 := e2 _ _ hlm
  have ztl : H tl = none := e1.free htl0
  walk_at "ga"
  refine l_fldA ?_
  walk_at "ga"
  refine l_Jpairs D hJ2.fx.obj ?_
  walk_at "ga"
  rw [hwp]
  refine forR (fun j σ' H' => ∃ (z5 z6 z7 z8 z9 z10 z11 : Option V), σ' = [some (.ref a), some (.int up), some (.int down), some (.ref hl), some (.ref tl), z5, z6, z7, z8, z9, z10, z11] ∧ SameBut tl H2 H' ∧ ∃ ws, H' tl = some (.lst ws) ∧
      Paired (fun v es => TRow K H' v es ∧ v ≠ .ref tl) ws ((List.range j).map (tightRow G S up down (hOf hs)))) (by omega)
    ⟨_, _, _, _, _, _, _, rfl, SameBut.refl tl H2, [], htl, .nil⟩ (fun j σ' H3 hj h => ?_) (fun σ' H3 h => ?_)
  · obtain ⟨z5, z6, z7, z8, z9, z10, z11, rfl, e3, ws, hws, hwp3⟩ := h
    have e03 : Same H H3 := e3.same e02 ztl
    have hJ3 := hJ.same e03
    walk_at "ga"
    refine l_mkL0 fun sm H4 e4 hsm0 hsm => ?_
    have e04 := e03.trans e4
    have hJ4 := hJ.same e04
    have hg4 := hJ4.gr.at
    have hs4 := hJ4.st.at
    simp only at hg4 hs4
    obtain ⟨gs, ae, us, p1, p2, p3, p4⟩ := hg4.row hj
    obtain ⟨ss, as', us', r1, r2, r3, r4⟩ := hs4.row (v := j) (by omega)
    have hul : us.length = (G.at j).length := by rw [p4.length, List.length_map]
    have hul' : us'.length = (G.at j).length := by rw [r4.length, List.length_map]; exact hSr j hj
    have hgr := hGr j
    have zsm : H3 sm = none := hsm0
    have nht : hl ≠ tl := fun q => by rw [q] at hlm; rw [htl0] at hlm; cases hlm
    have hl3 := e3 _ _ nht hlm2
    have hlm4 := e4 _ _ hl3
    have nhs : hl ≠ sm := ne_of_none hl3 zsm
    walk_at "ga"
    refine l_fldA ?_
    walk_at "ga"
    refine l_Jgraph D hJ4.fx.obj ?_
    walk_at "ga"
    refine l_ixL (SqL.of p1) (atI_nat p2) ?_
    walk_at "ga"
    refine l_fldA ?_
    walk_at "ga"
    refine l_Jsets D hJ4.fx.obj ?_
    walk_at "ga"
    refine l_ixL (SqL.of r1) (atI_nat r2) ?_
    walk_at "ga"
    have nae : ae ≠ sm := by
      have hg3 := hJ3.gr.at
      simp only at hg3
      obtain ⟨gs0, a0, u0, t1, t2, t3, _⟩ := hg3.row hj
      have q := e4 _ _ t1
      rw [p1] at q
      cases q
      rw [p2] at t2
      cases t2
      exact ne_of_none t3 zsm
    have nas : as' ≠ sm := by
      have hs3 := hJ3.st.at
      simp only at hs3
      obtain ⟨gs0, a0, u0, t1, t2, t3, _⟩ := hs3.row (v := j) (by omega)
      have q := e4 _ _ t1
      rw [r1] at q
      cases q
      rw [r2] at t2
      cases t2
      exact ne_of_none t3 zsm
    refine forZ (SqL.of p3) (SqL.of r3) (by omega) (fun q σ' H' => ∃ (z7 z8 z9 : Option V), σ' = [some (.ref a), some (.int up), some (.int down), some (.ref hl), some (.ref tl), some (.int (j : Nat)), some (.ref sm), z7, z8, z9, z10, z11] ∧ SameBut sm H4 H' ∧ ∃ ts, H' sm = some (.lst ts) ∧
        TDs K H' ts ((((((G.at j).zip (S.getD j [])).take q).filter fun p => decide (hOf hs j + down * p.1.1 - up = hOf hs p.1.2)).map fun p => (p.1.2, p.2)).map encT))
      ⟨_, _, _, rfl, SameBut.refl sm H4, [], hsm, .nil⟩ (fun q σ' H' h => ?_) (fun q x y T σ' H5 hx hy h hT => ?_) (fun σ' H5 h => ?_)
    · obtain ⟨_, _, _, _, e5, _⟩ := h
      exact ⟨SqL.of (e5 _ _ nae p3), SqL.of (e5 _ _ nas r3)⟩
    · obtain ⟨y7, y8, y9, rfl, e5, ts, hts, htd⟩ := h
      obtain ⟨d1, hd1, hx2⟩ := p4.at hx
      rw [List.getElem?_map] at hd1
      obtain ⟨⟨el, et⟩, he, rfl⟩ := Option.map_eq_some_iff.mp hd1
      obtain ⟨d2, hd2, hy2⟩ := r4.at hy
      rw [List.getElem?_map] at hd2
      obtain ⟨st, hst, rfl⟩ := Option.map_eq_some_iff.mp hd2
      have hem : (el, et) ∈ G.at j := List.mem_of_getElem? he
      have het := hG.to hem
      have hel : 0 ≤ el ∧ el ≤ 1000 := hlo _ (List.mem_of_getElem? (Gr.at_get hj)) _ hem
      have t5 : TupX K H4 H5 := e5.tup hsm
      have hzip : ((G.at j).zip (S.getD j []))[q]? = some ((el, et), st) := by
        rw [List.getElem?_zip_eq_some]
        exact ⟨he, hst⟩
      have e6 : Same H5 (upd H5 T (.tup [x, y])) := same_new hT
      have hTm : upd H5 T (.tup [x, y]) T = some (.tup [x, y]) := upd_same
      revert e6 hTm
      generalize upd H5 T (.tup [x, y]) = H6
      intro e6 hTm
      obtain ⟨c, u1, u2, rfl, hc', q1, q2⟩ := td_same e6 (hx2.mono t5)
        |>.t2
      cases q1.int_inv
      cases q2.int_inv
      have hT6 : SqT K H6 T [.ref c, y] := SqT.of hTm
      have hl6 : H6 hl = some (.lst (hs.map vH)) := e6 _ _ (e5 _ _ nhs hlm4)
      have rdj : ∀ {Q0 : VK}, Q0 (.int (hOf hs j)) H6 → rIxL K (.ref hl) (.int (j : Nat)) H6 Q0 := fun qq => l_ixL (SqL.of hl6) (atI_nat (vH_get (hall j hj))) qq
      have rde : ∀ {Q0 : VK}, Q0 (.int (hOf hs et)) H6 → rIxL K (.ref hl) (.int (et : Nat)) H6 Q0 := fun qq => l_ixL (SqL.of hl6) (atI_nat (vH_get (hall et het))) qq
      have mulOk : ∀ {Q0 : VK}, Q0 (.int (down * el)) H6 → rI CMul (fun i j => .int (i * j)) (.int down) (.int el) H6 Q0 := fun q => l_I (.inr ⟨by omega, by omega⟩) q
      have ts6 := e6 _ _ hts
      have htd6 := tds_same e6 htd
      have hy6 := td_same e6 (hy2.mono t5)
      walk_at "ga"
      refine rdj ?_
      walk_at "ga"
      refine mulOk ?_
      walk_at "ga"
      refine rde ?_
      walk_at "ga"
      have tk : ∀ b : Bool, b = decide (hOf hs j + down * el - up = hOf hs et) → ((((((G.at j).zip (S.getD j [])).take (q + 1)).filter fun p => decide (hOf hs j + down * p.1.1 - up = hOf hs p.1.2)).map fun p => (p.1.2, p.2)).map encT) =
          ((((((G.at j).zip (S.getD j [])).take q).filter fun p => decide (hOf hs j + down * p.1.1 - up = hOf hs p.1.2)).map fun p => (p.1.2, p.2)).map encT) ++ (if b = true then [encT (et, st)] else []) := fun b hb => by
        rw [filt_take (fun p : (Int × Nat) × List Bool => decide (hOf hs j + down * p.1.1 - up = hOf hs p.1.2)) (fun p => (p.1.2, p.2)) hzip, List.map_append, hb]
        by_cases hc : hOf hs j + down * el - up = hOf hs et
        · rw [if_pos (decide_eq_true hc), if_pos (decide_eq_true hc)]; rfl
        · rw [if_neg (by rw [decide_eq_false hc]; exact Bool.false_ne_true), if_neg (by rw [decide_eq_false hc]; exact Bool.false_ne_true)]; rfl
      have hqz : q < (G.at j).length := (List.getElem?_eq_some_iff.mp he).1
      have htl : ts.length ≤ 100 := by
        rw [htd.length, List.length_map, List.length_map]
        have z1 := List.length_filter_le (fun p : (Int × Nat) × List Bool => decide (hOf hs j + down * p.1.1 - up = hOf hs p.1.2)) (((G.at j).zip (S.getD j [])).take q)
        rw [List.length_take] at z1
        omega
      by_cases hc : hOf hs j + down * el - up = hOf hs et
      · refine l_iT (decide_eq_true (by rw [hc])) ?_
        walk_at "ga"
        refine ⟨tyv_list (SqL.of ts6), ?_⟩
        walk_at "ga"
        refine l_mkT (by show 2 ≤ sizeLine; decide) fun c7 H7 e7 hc7 hm7 => ?_
        walk_at "ga"
        have ts7 := e7 _ _ ts6
        refine l_appN ts7 (szl (by omega)) fun H8 e8 hm8 => ?_
        have t8 := e8.tup (K := K) ts7
        refine ⟨_, _, _, rfl, (e5.trans (SameBut.of_same (e6.trans e7))).trans e8, _, hm8, ?_⟩
        rw [tk true (decide_eq_true hc).symm, if_pos rfl]
        refine ((tds_same e7 htd6).mono t8).append (.one (.tup (t8 _ _ (SqT.of hm7)) (.two (.int _) ((td_same e7 hy6).mono t8))))
      · refine l_iF (decide_eq_false (by intro z; injection z with z; exact hc z)) ?_
        walk_at "ga"
        refine ⟨_, _, _, rfl, e5.trans (SameBut.of_same e6), ts, ts6, ?_⟩
        rw [tk false (decide_eq_false hc).symm, if_neg Bool.false_ne_true, List.append_nil]
        exact htd6
    · obtain ⟨y7, y8, y9, rfl, e5, ts, hts, htd⟩ := h
      have hzl : us.length = ((G.at j).zip (S.getD j [])).length := by rw [List.length_zip, hul, hSr j hj, Nat.min_self]
      rw [hzl, List.take_length] at htd
      have e35 : Same H3 H5 := e5.same e4 zsm
      have hws5 := e35 _ _ hws
      have nst : sm ≠ tl := (ne_of_none hws zsm).symm
      walk_at "ga"
      refine ⟨tyv_list (SqL.of hws5), ?_⟩
      walk_at "ga"
      refine l_appN hws5 (szl (by rw [hwp3.length, List.length_map, List.length_range]; omega)) fun H6 e6 hm6 => ?_
      have t6 := e6.tup (K := K) hws5
      refine ⟨_, _, _, _, _, _, _, rfl, (e3.trans (SameBut.of_same e35)).trans e6, _, hm6, ?_⟩
      rw [List.range_succ, List.map_append]
      refine Paired.snoc (Paired.mapP hwp3 fun v es z => ?_) ⟨⟨sm, ts, rfl, e6 _ _ nst hts, htd.mono t6⟩, fun z => nst (by injection z)⟩
      obtain ⟨⟨a2, us2, rfl, g1, g2⟩, g3⟩ := z
      exact ⟨⟨a2, us2, rfl, e6 _ _ (fun z => g3 (by rw [z])) (e35 _ _ g1), (tds_same e35 g2).mono t6⟩, g3⟩
  · obtain ⟨z5, z6, z7, z8, z9, z10, z11, rfl, e3, ws, hws, hwp3⟩ := h
    have e03 : Same H H3 := e3.same e02 ztl
    have hT : TightAt K H3 tl (tightT G S up down (hOf hs)) := ⟨ws, hws, Paired.mapP hwp3 fun _ _ z => z.1⟩
    have hTl : (tightT G S up down (hOf hs)).length = G.length := by unfold tightT; rw [List.length_map, List.length_range]
    have hJ3 := hJ.same e03
    obtain ⟨wp3, hpl3, hpd3⟩ := hJ3.pr.pr
    have hwp3' : wp3.length = G.length := by rw [hpd3.length, List.length_map]; exact hpl
    obtain ⟨v0, p0, hv0, hp0, hL0⟩ := hring _ hf
    walk_at "ga"
    refine l_fldA ?_
    walk_at "ga"
    refine l_Jpairs D hJ3.fx.obj ?_
    walk_at "ga"
    rw [hwp3']
    refine forR (fun j σ' H' => ∃ (z10 z11 : Option V), σ' = [some (.ref a), some (.int up), some (.int down), some (.ref hl), some (.ref tl), z5, z6, z7, z8, z9, z10, z11] ∧ Same H3 H' ∧ ∀ i, i < j → ∀ p, p ≠ [] → ¬ LWay (tightT G S up down (hOf hs)) i p i) (by omega)
      ⟨_, _, rfl, Same.refl H3, fun i hi => by omega⟩ (fun j σ' H4 hj h => ?_) (fun σ' H4 h => ?_)
    · obtain ⟨z10, z11, rfl, e4, hno⟩ := h
      walk_at "ga"
      refine ⟨tl, j, _, rfl, hT.same e4, tightT_ok hG, by rw [hTl]; exact hj, by rw [hTl]; exact hz, fun p l6 ws6 H6 hp hpl6 hL e6 hl6 hm6 hw6 => ?_, fun hn H6 e6 => ?_⟩
      · walk_at "ga"
        refine l_mkT (by show 2 ≤ sizeLine; decide) fun c7 H7 e7 hc7 hm7 => ?_
        exact k _ j p l6 ws6 c7 H7 hf hj hp hpl6 hL ((e03.trans e4).trans (e6.trans e7)) (e7 _ _ hm6) (tds_same e7 hw6) (SqT.of hm7)
      · walk_at "ga"
        refine ⟨_, _, rfl, e4.trans e6, fun i hi p hp => ?_⟩
        by_cases h : i = j
        · subst h; exact hn p hp
        · exact hno i (by omega) p hp
    · obtain ⟨z10, z11, rfl, e4, hno⟩ := h
      exact absurd hL0 (hno v0 hv0 p0 hp0)
end
/-! ### what the search leaves: each edge tells of a move -/
/-- an edge and its setting, of a move at the pair p -/
def EdgeOf (b : Book) (M : Mach) (ps : List (Nat × Nat)) (p : Nat × Nat) (mv : MvN) (e : Int × Nat) (st : List Bool) : Prop :=
  ∃ a, mv.2.find? (fun x => decide (x.1 = (stepM b M p.1 mv.1).1)) = some a ∧ e.1 = a.2.1 ∧ st = mv.1 ++ (stepM b M p.1 mv.1).1 ∧ ps[e.2]? = some ((stepM b M p.1 mv.1).2, a.2.2)
structure RowOf (b : Book) (M : Mach) (ps : List (Nat × Nat)) (p : Nat × Nat) (mvs : List MvN) (es : List (Int × Nat)) (ss : Play) : Prop where
  l1 : es.length = mvs.length
  l2 : ss.length = mvs.length
  ed : ∀ (i : Nat) (mv : MvN) (e : Int × Nat) (st : List Bool), mvs[i]? = some mv → es[i]? = some e → ss[i]? = some st → EdgeOf b M ps p mv e st
theorem EdgeOf.ext {b : Book} {M : Mach} {ps t : List (Nat × Nat)} {p : Nat × Nat} {mv : MvN} {e : Int × Nat} {st : List Bool} (h : EdgeOf b M ps p mv e st) : EdgeOf b M (ps ++ t) p mv e st := by
  obtain ⟨a, h1, h2, h3, h4⟩ := h
  exact ⟨a, h1, h2, h3, by rw [List.getElem?_append_left (List.getElem?_eq_some_iff.mp h4).1]; exact h4⟩
theorem RowOf.ext {b : Book} {M : Mach} {ps t : List (Nat × Nat)} {p : Nat × Nat} {mvs : List MvN} {es : List (Int × Nat)} {ss : Play} (h : RowOf b M ps p mvs es ss) : RowOf b M (ps ++ t) p mvs es ss :=
  ⟨h.l1, h.l2, fun i mv e st g1 g2 g3 => (h.ed i mv e st g1 g2 g3).ext⟩
theorem RowOf.nil {b : Book} {M : Mach} {ps : List (Nat × Nat)} {p : Nat × Nat} : RowOf b M ps p [] [] [] := ⟨rfl, rfl, fun i mv e st h => by simp at h⟩
theorem RowOf.snoc {b : Book} {M : Mach} {ps : List (Nat × Nat)} {p : Nat × Nat} {mvs : List MvN} {es : List (Int × Nat)} {ss : Play} {mv : MvN} {e : Int × Nat} {st : List Bool} (h : RowOf b M ps p mvs es ss) (he : EdgeOf b M ps p mv e st) : RowOf b M ps p (mvs ++ [mv]) (es ++ [e]) (ss ++ [st]) := by
  have l1 := h.l1
  have l2 := h.l2
  refine ⟨by rw [List.length_append, List.length_append, l1]; rfl, by rw [List.length_append, List.length_append, l2]; rfl, fun i mv' e' st' g1 g2 g3 => ?_⟩
  by_cases hi : i < mvs.length
  · rw [List.getElem?_append_left hi] at g1
    rw [List.getElem?_append_left (by omega)] at g2 g3
    exact h.ed i mv' e' st' g1 g2 g3
  · have hi2 : i = mvs.length := by
      have := (List.getElem?_eq_some_iff.mp g1).1
      rw [List.length_append] at this
      have q : ([mv] : List MvN).length = 1 := rfl
      omega
    subst hi2
    rw [List.getElem?_append_right (Nat.le_refl _), Nat.sub_self] at g1
    rw [List.getElem?_append_right (by omega), l1, Nat.sub_self] at g2
    rw [List.getElem?_append_right (by omega), l2, Nat.sub_self] at g3
    cases g1
    cases g2
    cases g3
    exact he
/-- one step keeps the pairs, and adds an edge of its move -/
theorem srStep_ok {b : Book} {M : Mach} (hM : MOk b M) {u : Nat} {mv : MvN} {acc acc' : Acc} {p : Nat × Nat} (hs : SrOk b M acc.1) (hp : acc.1.pairs[u]? = some p) (h1 : mv.1.length = b.foe.length) (h2 : ∀ a ∈ mv.2, a.1.length = b.fr.length ∧ a.2.2 < (rowM b).length)
    (h : srStep b M u mv acc = some acc') : SrOk b M acc'.1 ∧ acc'.1.pairs[u]? = some p ∧ (∃ t, acc'.1.pairs = acc.1.pairs ++ t) ∧ ∃ e st, acc'.2.1 = acc.2.1 ++ [e] ∧ acc'.2.2 = acc.2.2 ++ [st] ∧ EdgeOf b M acc'.1.pairs p mv e st := by
  have hu : u < acc.1.pairs.length := (List.getElem?_eq_some_iff.mp hp).1
  have hpm := hs.rng p (List.mem_of_getElem? hp)
  have hfr : friendOf b M acc.1 u mv.1 = stepM b M p.1 mv.1 := by
    unfold friendOf
    rw [List.getD_eq_getElem?_getD, hp]
    rfl
  obtain ⟨row, r1, r2, r3, r4⟩ := stepM_mem hM hpm.1 h1
  unfold srStep at h
  rw [hfr] at h
  cases hf : mv.2.find? fun a => decide (a.1 = (stepM b M p.1 mv.1).1) with
  | none => rw [hf] at h; cases h
  | some a =>
    rw [hf] at h
    cases h
    obtain ⟨t, _, _, ht, _⟩ := acc.1.add_ext u ((stepM b M p.1 mv.1).2, a.2.2) (mv.1 ++ (stepM b M p.1 mv.1).1)
    refine ⟨hs.add hu ⟨r4, (h2 a (find_mem hf).1).2⟩ (by unfold Book.names; rw [List.length_append, List.length_append, h1, r3]), ?_, ⟨t, ht⟩, _, _, rfl, rfl, a, hf, rfl, rfl, ?_⟩
    · show (acc.1.add u _ _).pairs[u]? = _
      rw [ht, List.getElem?_append_left hu]
      exact hp
    · refine ixOf_get ?_
      rw [Sr.add_pairs]
      exact mem_add1.mpr (.inr rfl)
theorem srFold_ok {b : Book} {M : Mach} (hM : MOk b M) {u : Nat} {p : Nat × Nat} : ∀ (mvs : List MvN) (acc acc' : Acc) (done : List MvN), SrOk b M acc.1 → acc.1.pairs[u]? = some p → (∀ mv ∈ mvs, mv.1.length = b.foe.length ∧ ∀ a ∈ mv.2, a.1.length = b.fr.length ∧ a.2.2 < (rowM b).length) →
    RowOf b M acc.1.pairs p done acc.2.1 acc.2.2 → srFold b M u mvs acc = .inr acc' → SrOk b M acc'.1 ∧ acc'.1.pairs[u]? = some p ∧ (∃ t, acc'.1.pairs = acc.1.pairs ++ t) ∧ RowOf b M acc'.1.pairs p (done ++ mvs) acc'.2.1 acc'.2.2
  | [], acc, acc', done, hs, hp, hm, hr, h => by
    rw [srFold_nil] at h
    cases h
    exact ⟨hs, hp, ⟨[], (List.append_nil _).symm⟩, by rw [List.append_nil]; exact hr⟩
  | mv :: r, acc, acc', done, hs, hp, hm, hr, h => by
    cases q : srStep b M u mv acc with
    | none => rw [srFold_none q] at h; cases h
    | some a1 =>
      rw [srFold_some q] at h
      obtain ⟨g1, g2, ⟨t, g3⟩, e, st, g4, g5, g6⟩ := srStep_ok hM hs hp (hm mv (by simp)).1 (hm mv (by simp)).2 q
      have hr2 : RowOf b M a1.1.pairs p (done ++ [mv]) a1.2.1 a1.2.2 := by
        rw [g4, g5]
        refine RowOf.snoc ?_ g6
        rw [g3]
        exact hr.ext
      obtain ⟨f1, f2, ⟨t2, f3⟩, f4⟩ := srFold_ok hM r a1 acc' (done ++ [mv]) g1 g2 (fun m hm2 => hm m (List.mem_cons_of_mem _ hm2)) hr2 h
      exact ⟨f1, f2, ⟨t ++ t2, by rw [f3, g3, List.append_assoc]⟩, by rw [List.append_assoc] at f4; exact f4⟩
/-- of the whole search -/
structure ResOk (b : Book) (M : Mach) (r : Res) : Prop where
  sr : SrOk b M r.1
  ls : r.2.2.length = r.2.1.length
  le : r.2.1.length ≤ r.1.pairs.length
  row : ∀ u, u < r.2.1.length → ∃ p, r.1.pairs[u]? = some p ∧ RowOf b M r.1.pairs p (movesN b p.2) (Gr.at r.2.1 u) (r.2.2.getD u [])
theorem ResOk.init {b : Book} {M : Mach} (hM : MOk b M) : ResOk b M (sr0, [], []) := ⟨SrOk.init hM, rfl, Nat.zero_le _, fun u hu => by
  have : ([] : Gr).length = 0 := rfl
  have hu : u < ([] : Gr).length := hu
  omega⟩
theorem ResOk.step {b : Book} {M : Mach} (hb : b.Ok) (hM : MOk b M) {r : Res} {acc : Acc} (h : ResOk b M r) (hlt : r.2.1.length < r.1.pairs.length) (hf : srFold b M r.2.1.length (movesN b (r.1.pairs.getD r.2.1.length (0, 0)).2) (r.1, [], []) = .inr acc) :
    ResOk b M (acc.1, r.2.1 ++ [acc.2.1], r.2.2 ++ [acc.2.2]) := by
  obtain ⟨s, G, S⟩ := r
  obtain ⟨h1, h2, h3, h4⟩ := h
  simp only at h1 h2 h3 h4 hlt hf
  obtain ⟨p, hp⟩ : ∃ p, s.pairs[G.length]? = some p := ⟨_, List.getElem?_eq_getElem hlt⟩
  have hpg : s.pairs.getD G.length (0, 0) = p := by rw [List.getD_eq_getElem?_getD, hp]; rfl
  rw [hpg] at hf
  have hpm := h1.rng p (List.mem_of_getElem? hp)
  obtain ⟨f1, f2, ⟨t, f3⟩, f4⟩ := srFold_ok hM (movesN b p.2) (s, [], []) acc [] h1 hp (fun mv hmv => movesN_ok hb hpm.2 hmv) RowOf.nil hf
  rw [List.nil_append] at f4
  refine ⟨f1, ?_, ?_, fun u hu => ?_⟩
  · show (S ++ [_]).length = (G ++ [_]).length
    rw [List.length_append, List.length_append, h2]
    rfl
  · show (G ++ [_]).length ≤ _
    rw [List.length_append]
    exact (List.getElem?_eq_some_iff.mp f2).1
  · have hu : u < (G ++ [acc.2.1]).length := hu
    rw [List.length_append] at hu
    have q1 : ([acc.2.1] : Gr).length = 1 := rfl
    show ∃ p, acc.1.pairs[u]? = some p ∧ RowOf b M acc.1.pairs p (movesN b p.2) (Gr.at (G ++ [acc.2.1]) u) ((S ++ [acc.2.2]).getD u [])
    unfold Gr.at
    rw [List.getD_eq_getElem?_getD, List.getD_eq_getElem?_getD]
    by_cases hi : u < G.length
    · obtain ⟨p', g1, g2⟩ := h4 u hi
      have f3 : acc.1.pairs = s.pairs ++ t := f3
      refine ⟨p', by rw [f3, List.getElem?_append_left (by omega)]; exact g1, ?_⟩
      rw [List.getElem?_append_left hi, List.getElem?_append_left (by omega), ← List.getD_eq_getElem?_getD, ← List.getD_eq_getElem?_getD, f3]
      exact g2.ext
    · have e : u = G.length := by omega
      subst e
      refine ⟨p, f2, ?_⟩
      rw [List.getElem?_append_right (Nat.le_refl _), List.getElem?_append_right (by omega), Nat.sub_self, h2, Nat.sub_self]
      exact f4
theorem srRun_ok {b : Book} {M : Mach} (hb : b.Ok) (hM : MOk b M) : ∀ (f : Nat) (r r' : Res), ResOk b M r → srRun b M f r = .inr r' → ResOk b M r'
  | 0, r, r', h, e => by
    cases e
    exact h
  | f + 1, r, r', h, e => by
    by_cases hlt : r.2.1.length < r.1.pairs.length
    · cases q : srFold b M r.2.1.length (movesN b (r.1.pairs.getD r.2.1.length (0, 0)).2) (r.1, [], []) with
      | inl p => rw [srRun_brk hlt q] at e; cases e
      | inr acc =>
        rw [srRun_go hlt q] at e
        exact srRun_ok hb hM f _ r' (h.step hb hM hlt q) e
    · rw [srRun_end (by omega)] at e
      cases e
      exact h
theorem srRes_ok {b : Book} {M : Mach} (hb : b.Ok) (hM : MOk b M) {r : Res} (h : srRes b M = .inr r) : ResOk b M r := srRun_ok hb hM 100 _ r (ResOk.init hM) h
/-! ### the graph of a whole search -/
theorem ResOk.edge {b : Book} {M : Mach} {s : Sr} {G : Gr} {S : List Play} (h : ResOk b M (s, G, S)) {u i : Nat} {e : Int × Nat} (he : (G.at u)[i]? = some e) :
    ∃ p mv st, s.pairs[u]? = some p ∧ (movesN b p.2)[i]? = some mv ∧ (S.getD u [])[i]? = some st ∧ EdgeOf b M s.pairs p mv e st := by
  have hu : u < G.length := Gr.at_mem (List.mem_of_getElem? he)
  obtain ⟨p, hp, hr⟩ := h.row u hu
  have hi := (List.getElem?_eq_some_iff.mp he).1
  have l1 : (G.at u).length = (movesN b p.2).length := hr.l1
  have l2 : (S.getD u []).length = (movesN b p.2).length := hr.l2
  have g1 : (movesN b p.2)[i]? = some ((movesN b p.2)[i]'(by omega)) := List.getElem?_eq_getElem (by omega)
  have g2 : (S.getD u [])[i]? = some ((S.getD u [])[i]'(by omega)) := List.getElem?_eq_getElem (by omega)
  exact ⟨p, _, _, hp, g1, g2, hr.ed i _ e _ g1 he g2⟩
theorem ResOk.gok {b : Book} {M : Mach} {s : Sr} {G : Gr} {S : List Play} (h : ResOk b M (s, G, S)) (hd : s.pairs.length = G.length) : G.Ok := by
  intro es hes e he
  obtain ⟨u, hu, rfl⟩ := List.mem_iff_getElem.mp hes
  obtain ⟨i, hi, rfl⟩ := List.mem_iff_getElem.mp he
  have q : (G.at u)[i]? = some G[u][i] := by
    have := Gr.at_get (G := G) hu
    rw [List.getElem?_eq_getElem hu] at this
    rw [← Option.some.inj this]
    exact List.getElem?_eq_getElem hi
  obtain ⟨p, mv, st, h1, h2, h3, a, g1, g2, g3, g4⟩ := h.edge q
  have := (List.getElem?_eq_some_iff.mp g4).1
  omega
theorem sum_bd : ∀ l : List Int, (∀ x ∈ l, 0 ≤ x ∧ x ≤ 99) → 0 ≤ l.sum ∧ l.sum ≤ 99 * (l.length : Nat)
  | [], _ => ⟨Int.le_refl _, by show (0 : Int) ≤ 99 * (0 : Nat); omega⟩
  | x :: l, h => by
    have h1 := h x (by simp)
    have h2 := sum_bd l fun y hy => h y (List.mem_cons_of_mem _ hy)
    rw [List.sum_cons, List.length_cons]
    omega
theorem lossM_bd {b : Book} (hb : b.Ok) (mem st : List Bool) : 0 ≤ lossM b mem st ∧ lossM b mem st ≤ 1000 := by
  unfold lossM
  have h := sum_bd ((b.wishes.filter fun p => !holdsM b.names b.pieces mem st p.2).map (·.1)) fun x hx => by
    obtain ⟨p, hp, rfl⟩ := List.mem_map.mp hx
    have := hb.price p (List.mem_filter.mp hp).1
    exact ⟨by omega, by omega⟩
  rw [List.length_map] at h
  have h2 := List.length_filter_le (fun p : Int × Say => !holdsM b.names b.pieces mem st p.2) b.wishes
  have := hb.w5
  omega
section
variable {P : Program} {w : World} {K : PySem.W.Frag} {mg : Str → Option Value} {base : Heap}
/-! ### the law's draws -/
/-- a list that stands, apart from the lists of S -/
def SqS (K : PySem.W.Frag) (H : Hp) (S : List Addr) (s : Addr) (ns : List Int) : Prop := (Rd H s (.lst (ns.map V.int)) ∧ s ∉ S) ∨ ∀ H', SqL K H' s (ns.map V.int)
theorem SqS.at {H : Hp} {S : List Addr} {s : Addr} {ns : List Int} (h : SqS K H S s ns) : SqL K H s (ns.map V.int) := by
  rcases h with ⟨h, _⟩ | h
  · exact .inl h
  · exact h H
theorem SqS.ex {H H' : Hp} {S : List Addr} {s : Addr} {ns : List Int} (e : SameEx S H H') (h : SqS K H S s ns) : SqS K H' S s ns := by
  rcases h with ⟨h | ⟨o, h⟩, n⟩ | h
  · exact .inl ⟨.inl (e _ _ n h), n⟩
  · exact .inl ⟨.inr ⟨o, e _ _ n h⟩, n⟩
  · exact .inr h
theorem SqS.same {H H' : Hp} {S : List Addr} {s : Addr} {ns : List Int} (e : Same H H') (h : SqS K H S s ns) : SqS K H' S s ns := h.ex (SameEx.of_same e)
theorem SqS.sub {H : Hp} {S T : List Addr} {s : Addr} {ns : List Int} (e : ∀ x ∈ T, x ∈ S) (h : SqS K H S s ns) : SqS K H T s ns := by
  rcases h with ⟨h, n⟩ | h
  · exact .inl ⟨h, fun z => n (e _ z)⟩
  · exact .inr h
theorem SqS.of {H : Hp} {s : Addr} {ns : List Int} (h : SqL K H s (ns.map V.int)) : SqS K H [] s ns := by
  rcases h with h | h
  · exact .inl ⟨h, fun z => nomatch z⟩
  · exact .inr fun _ => .inr h
/-- a new list is apart -/
theorem SqS.add {H : Hp} {S : List Addr} {s m : Addr} {ns : List Int} (hm : H m = none) (h : SqS K H S s ns) : SqS K H (m :: S) s ns := by
  rcases h with ⟨h, n⟩ | h
  · refine .inl ⟨h, fun z => ?_⟩
    rcases List.mem_cons.mp z with z | z
    · subst z
      rcases h with h | ⟨o, h⟩ <;> rw [hm] at h <;> cases h
    · exact n z
  · exact .inr h
theorem ints_shaped (ns : List Int) : SeqAt.shaped (.list (ns.map PyData.int)) = true := by
  refine shaped_of ?_ ?_
  · rw [lay_lst]; exact lay_map fun s _ => lay_int
  · rw [dep_lst]
    have := dep_map (f := PyData.int) (n := 0) (l := ns) fun s _ => by rw [dep_int]; exact Nat.le_refl _
    omega
def spCell (K : PySem.W.Frag) : Sp := fun vs H Q _ => ∃ (s : Addr) (ns : List Int) (k : Nat), vs = [.ref s, .int (k : Nat)] ∧ SqL K H s (ns.map V.int) ∧ ns.length ≤ 1000 ∧ ∀ z H', Same H H' → Q (.int z) H'
theorem sc_law_cell_at : FnScope ["_law_script", "_law_k"] ["_law_script", "_law_k"] (defScope s_law_cell_at) := ⟨rfl, rfl, rfl, by decide +kernel, rfl, by decide +kernel, by decide +kernel⟩
theorem ok_cell (D : Hd K mg) : OkG P w K mg base "_law_cell_at" ["_law_script", "_law_k"] 1 (spCell K) := by
  obtain ⟨fd, F⟩ := F_law_cell_at D
  refine ⟨g_law_cell_at D, F.kp, fd, F.ok sc_law_cell_at (fun vs H Q E h => ?_) (fun cdv A outer sS H vs Q E hr h => ?_), F.bindsN fun _ _ _ _ _ _ us hl => match us, hl with | [_, _], _ => rfl⟩
  · obtain ⟨s, ns, k, rfl, _⟩ := h
    rfl
  obtain ⟨s, ns, k, rfl, hs, hz, q⟩ := h
  refine ⟨_, (PSs.nox (pss_cons (ps_if (pt_cmpR op_lt (pv 1) (pe_callB (cl_lenK K) (by rfl) (g_len D) (by decide +kernel) (pa_cons (pv 0) pa_nil)) (nomark _)) (pss_one (ps_ret (pe_ix (ix_listK K) (pv 0) (pv 1) (fun _ _ => rfl)))) pss_nil)
      (pss_cons (ps_if (pt_cmpR (op_eqDK K (hu64 hr)) (pv 0) (pe_lst pa_nil) (nomark _)) (pss_one (ps_ret pe_int)) pss_nil)
      (pss_one (ps_ret (pe_op op_add (pe_op op_mul (pe_ix (ix_listK K) (pv 0) (pe_op op_mod (pv 1) (pe_callB (cl_lenK K) (by rfl) (g_len D) (by decide +kernel) (pa_cons (pv 0) pa_nil))) (fun _ _ => rfl)) pe_int) (pv 1))))))), ?_⟩
  walk_at "ga"
  rw [List.length_map]
  refine l_i2 (fun hlt => ?_) (fun hge => ?_)
  · have hlt : k < ns.length := by have := of_decide_eq_true hlt; omega
    walk_at "ga"
    refine l_ixL hs (atI_nat (v := .int ns[k]) (by rw [List.getElem?_map, List.getElem?_eq_getElem hlt]; rfl)) ?_
    exact q _ H (Same.refl H)
  · walk_at "ga"
    refine l_mkL0 fun p H1 e1 hp hm => ?_
    have hs1 := e1.seq hs
    refine l_eqD (dpl hs1 TDs.ints) (dpl (SqL.of hm) TDs.nil) (ints_shaped ns) (by decide +kernel) ?_
    rw [eqv_lst]
    walk_at "ga"
    cases ns with
    | nil =>
      rw [List.map_nil, eqvA_nil]
      walk_at "ga"
      exact q _ H1 e1
    | cons n ns =>
      rw [List.map_cons, eqvA_cn]
      walk_at "ga"
      refine l_I (by rw [List.length_map, List.length_cons]; omega) ?_
      have hk : (k : Int) % (((n :: ns).map V.int).length : Nat) = ((k % (n :: ns).length : Nat) : Int) := by rw [List.length_map]; omega
      rw [hk]
      have hlt : k % (n :: ns).length < (n :: ns).length := Nat.mod_lt _ (by rw [List.length_cons]; omega)
      refine l_ixL hs1 (atI_nat (v := .int ((n :: ns)[k % (n :: ns).length])) (by rw [List.getElem?_map, List.getElem?_eq_getElem hlt]; rfl)) ?_
      walk_at "ga"
      refine l_I (.inr ⟨by omega, by omega⟩) ?_
      walk_at "ga"
      exact q _ H1 e1
def spMixed (K : PySem.W.Frag) : Sp := fun vs H Q _ => ∃ (s : Addr) (ns : List Int) (k n : Nat), vs = [.ref s, .int (k : Nat), .int (n : Nat)] ∧ SqL K H s (ns.map V.int) ∧ ns.length ≤ 1000 ∧ k ≤ 1000000 ∧ 0 < n ∧ ∀ (r : Nat) H', r < n → Same H H' → Q (.int (r : Nat)) H'
theorem sc_law_mixed : FnScope ["_law_script", "_law_k", "_law_many", "_law_drawn"] ["_law_script", "_law_k", "_law_many"] (defScope s_law_mixed) := ⟨rfl, rfl, rfl, by decide +kernel, rfl, by decide +kernel, by decide +kernel⟩
theorem ok_mixed (D : Hd K mg) : OkG P w K mg base "_law_mixed" ["_law_script", "_law_k", "_law_many"] 2 (spMixed K) := by
  have G_law_cell_at := ok_cell (P := P) (w := w) (base := base) D
  obtain ⟨fd, F⟩ := F_law_mixed D
  refine ⟨g_law_mixed D, F.kp, fd, F.ok sc_law_mixed (fun vs H Q E h => ?_) (fun cdv A outer sS H vs Q E hr h => ?_), F.bindsN fun _ _ _ _ _ _ us hl => match us, hl with | [_, _, _], _ => rfl⟩
  · obtain ⟨s, ns, k, n, rfl, _⟩ := h
    rfl
  obtain ⟨s, ns, k, n, rfl, hs, hz, hk, hn, q⟩ := h
  refine ⟨_, (PSs.nox (pss_cons (ps_set (i := 3) sc_law_mixed.nd rfl (Or.inl rfl) (pe_op op_mod (pe_op op_mul (pe_op op_add (pe_op op_add (pe_cl G_law_cell_at hr (pa_cons (pv 0) (pa_cons (pv 1) pa_nil))) (pe_op op_mul pe_int (pv 1))) pe_int) pe_int) pe_int))
      (pss_one (ps_ret (pe_op op_mod (pe_op op_mod (pe_op op_add (pe_op op_add (pe_op op_mul (pv 3) (pv 3)) (pe_op op_mul pe_int (pv 3))) (pv 1)) pe_int) (pv 2)))))), ?_⟩
  walk_at "ga"
  refine ⟨s, ns, k, rfl, hs, hz, fun z H1 e1 => ?_⟩
  walk_at "ga"
  refine l_I (.inl ⟨by omega, by omega⟩) ?_
  walk_at "ga"
  refine l_I (.inr ⟨by omega, by omega⟩) ?_
  walk_at "ga"
  refine l_I (by omega) ?_
  have d1 := Int.emod_nonneg ((z + 7919 * (k : Nat) + 1) * 48271) (b := 2147483647) (by omega)
  have d2 := Int.emod_lt_of_pos ((z + 7919 * (k : Nat) + 1) * 48271) (b := 2147483647) (by omega)
  generalize ((z + 7919 * (k : Nat) + 1) * 48271) % 2147483647 = d at d1 d2
  walk_at "ga"
  refine l_I (.inr ⟨by omega, by omega⟩) ?_
  walk_at "ga"
  refine l_I (.inr ⟨by omega, by omega⟩) ?_
  walk_at "ga"
  refine l_I (by omega) ?_
  walk_at "ga"
  refine l_I (by omega) ?_
  generalize (d * d + 7 * d + (k : Nat)) % 2147483629 = y
  have m1 := Int.emod_nonneg y (b := (n : Nat)) (by omega)
  have m2 := Int.emod_lt_of_pos y (b := (n : Nat)) (by omega)
  have hr := q (y % (n : Nat)).toNat H1 (by omega) e1
  rw [Int.toNat_of_nonneg m1] at hr
  exact hr
/-- the counter -/
def Cnt (H : Hp) (m : Addr) (i : Nat) : Prop := H m = some (.lst [.int (i : Nat)])
def spNext (K : PySem.W.Frag) : Sp := fun vs H Q _ => ∃ (s m : Addr) (ns : List Int) (i n : Nat), vs = [.ref s, .ref m, .int (n : Nat)] ∧ SqS K H [m] s ns ∧ ns.length ≤ 1000 ∧ Cnt H m i ∧ i ≤ 100000 ∧ 0 < n ∧
  ∀ (r : Nat) H', r < n → SameBut m H H' → Cnt H' m (i + 1) → Q (.int (r : Nat)) H'
theorem sc_law_next : FnScope ["_law_script", "_law_m", "_law_many"] ["_law_script", "_law_m", "_law_many"] (defScope s_law_next) := ⟨rfl, rfl, rfl, by decide +kernel, rfl, by decide +kernel, by decide +kernel⟩
theorem l_setI {H : Hp} {l : Addr} {xs : List V} {t : Nat} {v : V} {R : Hp → Prop} (h : H l = some (.lst xs)) (ht : t < xs.length) (q : ∀ H', SameBut l H H' → H' l = some (.lst (xs.set t v)) → R H') : rSetL (.ref l) (.int (t : Nat)) v H R :=
  ⟨l, xs, _, t, rfl, rfl, h, ixN_nat ht, q _ SameBut.upd upd_same⟩
theorem ok_next (D : Hd K mg) : OkG P w K mg base "_law_next" ["_law_script", "_law_m", "_law_many"] 3 (spNext K) := by
  have G_law_mixed := ok_mixed (P := P) (w := w) (base := base) D
  obtain ⟨fd, F⟩ := F_law_next D
  refine ⟨g_law_next D, F.kp, fd, F.ok sc_law_next (fun vs H Q E h => ?_) (fun cdv A outer sS H vs Q E hr h => ?_), F.bindsN fun _ _ _ _ _ _ us hl => match us, hl with | [_, _, _], _ => rfl⟩
  · obtain ⟨s, m, ns, i, n, rfl, _⟩ := h
    rfl
  obtain ⟨s, m, ns, i, n, rfl, hs, hz, hm, hi, hn, q⟩ := h
  refine ⟨_, (PSs.nox (pss_cons (ps_asg (pe_op op_add (pe_ix (ix_listK K) (pv 1) pe_int (fun _ _ => rfl)) pe_int) (pg_sub (pv 1) pe_int set_list))
      (pss_one (ps_ret (pe_cl G_law_mixed hr (pa_cons (pv 0) (pa_cons (pe_ix (ix_listK K) (pv 1) pe_int (fun _ _ => rfl)) (pa_cons (pv 2) pa_nil)))))))), ?_⟩
  have hm' : H m = some (.lst [.int (i : Nat)]) := hm
  walk_at "ga"
  refine l_gsub ?_
  walk_at "ga"
  refine l_setI (t := 0) hm' (Nat.lt_succ_self 0) fun H1 e1 hm1 => ?_
  have hm1 : H1 m = some (.lst [.int ((i + 1 : Nat) : Int)]) := hm1
  walk_at "ga"
  refine ⟨s, ns, i + 1, n, rfl, (hs.ex (SameEx.of_but e1 (List.mem_singleton.mpr rfl))).at, hz, by omega, hn, fun r H2 hr e2 => ?_⟩
  exact q r H2 hr (e1.trans (SameBut.of_same e2)) (e2 _ _ hm1)
end
section
variable {P : Program} {w : World} {K : PySem.W.Frag} {mg : Str → Option Value} {base : Heap}
/-! ### names -/
theorem cut_drop (xs : List V) {n : Nat} (h : n ≤ xs.length) : cutV xs (some (n : Nat)) none = xs.drop n := by
  unfold cutV
  have e1 : HT.sIx xs.length xs.length none = xs.length := rfl
  rw [e1, HT.sIx_nat, Nat.min_eq_left h, List.take_of_length_le (by rw [List.length_drop]; exact Nat.le_refl _)]
theorem cut_mid (xs : List V) {a c : Nat} (h : a + c ≤ xs.length) : cutV xs (some (a : Nat)) (some ((a + c : Nat) : Int)) = (xs.drop a).take c := by
  unfold cutV
  rw [HT.sIx_nat, HT.sIx_nat, Nat.min_eq_left (by omega), Nat.min_eq_left (by omega)]
  congr 1
  omega
theorem LN_nd : LN.Nodup := by decide +kernel
theorem rot_ok {t a c : Nat} (h1 : 1 ≤ a) (h2 : a ≤ 2) (h3 : 1 ≤ c) (h4 : c ≤ 2) : ∃ f g : List Str, f = (LN.drop t ++ LN.take t).take a ∧ g = ((LN.drop t ++ LN.take t).drop a).take c ∧ f.length = a ∧ g.length = c ∧ (f ++ g).Nodup ∧ ∀ x ∈ f ++ g, x ∈ LN := by
  have hp : (LN.drop t ++ LN.take t).Perm LN := by
    have := List.perm_append_comm (l₁ := LN.drop t) (l₂ := LN.take t)
    rwa [List.take_append_drop] at this
  have hl : (LN.drop t ++ LN.take t).length = 8 := hp.length_eq
  have hn : (LN.drop t ++ LN.take t).Nodup := hp.nodup_iff.mpr LN_nd
  have hm : ∀ x ∈ (LN.drop t ++ LN.take t), x ∈ LN := fun x hx => hp.mem_iff.mp hx
  generalize LN.drop t ++ LN.take t = row at hl hn hm
  have e : row.take a ++ (row.drop a).take c = row.take (a + c) := by rw [List.take_add]
  refine ⟨_, _, rfl, rfl, by rw [List.length_take]; omega, by rw [List.length_take, List.length_drop]; omega, ?_, fun x hx => ?_⟩
  · rw [e]; exact hn.sublist (List.take_sublist _ _)
  · rw [e] at hx
    exact hm x (List.mem_of_mem_take hx)
def spLNames (K : PySem.W.Frag) : Sp := fun vs H Q _ => ∃ (s m : Addr) (ns : List Int) (i : Nat), vs = [.ref s, .ref m] ∧ SqS K H [m] s ns ∧ ns.length ≤ 1000 ∧ Cnt H m i ∧ i ≤ 10000 ∧
  ∀ r (f g : List Str) H', SameBut m H H' → Cnt H' m (i + 3) → 1 ≤ f.length → f.length ≤ 2 → 1 ≤ g.length → g.length ≤ 2 → (f ++ g).Nodup → (∀ x ∈ f ++ g, x ∈ LN) → TD K H' r (.tuple [encNames f, encNames g]) → Q r H'
theorem sc_law_names : FnScope ["_law_script", "_law_m", "_law_some", "_law_turn", "_law_row", "_law_foe", "_law_friend"] ["_law_script", "_law_m"] (defScope s_law_names) := ⟨rfl, rfl, rfl, by decide +kernel, rfl, by decide +kernel, by decide +kernel⟩
theorem ok_names (D : Hd K mg) : OkG P w K mg base "_law_names" ["_law_script", "_law_m"] 4 (spLNames K) := by
  have G_law_next := ok_next (P := P) (w := w) (base := base) D
  obtain ⟨fd, F⟩ := F_law_names D
  refine ⟨g_law_names D, F.kp, fd, F.ok sc_law_names (fun vs H Q E h => ?_) (fun cdv A outer sS H vs Q E hr h => ?_), F.bindsN fun _ _ _ _ _ _ us hl => match us, hl with | [_, _], _ => rfl⟩
  · obtain ⟨s, m, ns, i, rfl, _⟩ := h
    rfl
  obtain ⟨s, m, ns, i, rfl, hs, hz, hm, hi, q⟩ := h
  refine ⟨_, (PSs.nox (pss_cons (ps_set (i := 2) sc_law_names.nd rfl (Or.inl rfl) (pe_lst (pa_cons pe_str (pa_cons pe_str (pa_cons pe_str (pa_cons pe_str (pa_cons pe_str (pa_cons pe_str (pa_cons pe_str (pa_cons pe_str pa_nil))))))))))
      (pss_cons (ps_set (i := 3) sc_law_names.nd rfl (Or.inl rfl) (pe_cl G_law_next hr (pa_cons (pv 0) (pa_cons (pv 1) (pa_cons pe_int pa_nil)))))
      (pss_cons (ps_set (i := 4) sc_law_names.nd rfl (Or.inl rfl) (pe_op op_cat (pe_slice (sl_listK K) (pv 2) (po_some (pv 3)) po_none) (pe_slice (sl_listK K) (pv 2) po_none (po_some (pv 3)))))
      (pss_cons (ps_set (i := 5) sc_law_names.nd rfl (Or.inl rfl) (pe_op op_add pe_int (pe_cl G_law_next hr (pa_cons (pv 0) (pa_cons (pv 1) (pa_cons pe_int pa_nil))))))
      (pss_cons (ps_set (i := 6) sc_law_names.nd rfl (Or.inl rfl) (pe_op op_add pe_int (pe_cl G_law_next hr (pa_cons (pv 0) (pa_cons (pv 1) (pa_cons pe_int pa_nil))))))
      (pss_one (ps_ret (pe_tup (pa_cons (pe_callTy (cl_tupK K) (by rfl) (g_tuple D) (by decide +kernel) (pa_cons (pe_slice (sl_listK K) (pv 4) po_none (po_some (pv 5))) pa_nil)) (pa_cons (pe_callTy (cl_tupK K) (by rfl) (g_tuple D) (by decide +kernel) (pa_cons (pe_slice (sl_listK K) (pv 4) (po_some (pv 5)) (po_some (pe_op op_add (pv 5) (pv 6)))) pa_nil)) pa_nil))))))))))), ?_⟩
  walk_at "ga"
  refine l_mkL (by show 8 ≤ sizeLine; decide) fun so H1 e1 hso0 hso => ?_
  have hso : H1 so = some (.lst (LN.map V.str)) := hso
  have nso : so ≠ m := (ne_of_none hm hso0).symm
  walk_at "ga"
  refine ⟨s, m, ns, i, 8, rfl, hs.same e1, hz, e1 _ _ hm, by omega, by omega, fun t H2 ht e2 hm2 => ?_⟩
  have hso2 := e2 _ _ nso hso
  walk_at "ga"
  refine l_slLN (SqL.of hso2) fun p1 H3 e3 hp10 hp1 => ?_
  rw [cut_drop _ (by rw [List.length_map]; show t ≤ 8; omega)] at hp1
  walk_at "ga"
  refine l_slLN (SqL.of (e3 _ _ hso2)) fun p2 H4 e4 hp20 hp2 => ?_
  rw [cut_take] at hp2
  refine l_catN (e4 _ _ hp1) hp2 (sz ?_) fun ro H5 e5 hro0 hro => ?_
  · rw [List.length_drop, List.length_take, List.length_map]
    show 8 - t + min t 8 ≤ _
    omega
  rw [← List.map_drop, ← List.map_take, ← List.map_append] at hro
  have e25 : SameBut m H H5 := ((SameBut.of_same e1).trans e2).trans (SameBut.of_same ((e3.trans e4).trans e5))
  have hm5 : Cnt H5 m (i + 1) := (e3.trans (e4.trans e5)) _ _ hm2
  have nro : ro ≠ m := (ne_of_none ((e3.trans e4) _ _ hm2) hro0).symm
  walk_at "ga"
  refine ⟨s, m, ns, i + 1, 2, rfl, hs.ex (SameEx.of_but e25 (List.mem_singleton.mpr rfl)), hz, hm5, by omega, by omega, fun a H6 ha e6 hm6 => ?_⟩
  have e26 := e25.trans e6
  walk_at "ga"
  refine ⟨s, m, ns, i + 2, 2, rfl, hs.ex (SameEx.of_but e26 (List.mem_singleton.mpr rfl)), hz, hm6, by omega, by omega, fun c H7 hc e7 hm7 => ?_⟩
  have e27 := e26.trans e7
  have hro7 := e7 _ _ nro (e6 _ _ nro hro)
  obtain ⟨f, g, hf, hg, hfl, hgl, hnd, hln⟩ := rot_ok (t := t) (a := a + 1) (c := c + 1) (by omega) (by omega) (by omega) (by omega)
  have ea : (1 : Int) + (a : Nat) = ((a + 1 : Nat) : Int) := by omega
  have ec : (1 : Int) + (c : Nat) = ((c + 1 : Nat) : Int) := by omega
  rw [ea]
  walk_at "ga"
  rw [ec]
  refine l_slLN (SqL.of hro7) fun p3 H8 e8 hp30 hp3 => ?_
  rw [cut_take, ← List.map_take, ← hf] at hp3
  walk_at "ga"
  refine l_tupL (SqL.of hp3) fun t9 ht9 => ?_
  have e9 : Same H8 (upd H8 t9 (.tup (f.map V.str))) := same_new ht9
  have hm9 : upd H8 t9 (.tup (f.map V.str)) t9 = some (.tup (f.map V.str)) := upd_same
  revert e9 hm9
  generalize upd H8 t9 (.tup (f.map V.str)) = H9
  intro e9 hm9
  walk_at "ga"
  rw [show ((a + 1 : Nat) : Int) + ((c + 1 : Nat) : Int) = ((a + 1 + (c + 1) : Nat) : Int) by omega]
  refine l_slLN (SqL.of ((e8.trans e9) _ _ hro7)) fun p4 H10 e10 hp40 hp4 => ?_
  rw [cut_mid _ (by rw [List.length_map]; have hl : (LN.drop t ++ LN.take t).length = 8 := by (rw [List.length_append, List.length_drop, List.length_take]; show 8 - t + min t 8 = 8; omega)
                    omega), ← List.map_drop, ← List.map_take, ← hg] at hp4
  walk_at "ga"
  refine l_tupL (SqL.of hp4) fun t11 ht11 => ?_
  have e11 : Same H10 (upd H10 t11 (.tup (g.map V.str))) := same_new ht11
  have hm11 : upd H10 t11 (.tup (g.map V.str)) t11 = some (.tup (g.map V.str)) := upd_same
  revert e11 hm11
  generalize upd H10 t11 (.tup (g.map V.str)) = H11
  intro e11 hm11
  walk_at "ga"
  refine l_mkT (by show 2 ≤ sizeLine; decide) fun p12 H12 e12 hp120 hp12 => ?_
  have e712 : Same H7 H12 := ((e8.trans e9).trans (e10.trans e11)).trans e12
  refine q _ f g H12 (e27.trans (SameBut.of_same e712)) (e712 _ _ hm7) (by omega) (by omega) (by omega) (by omega) hnd hln (.tup (SqT.of hp12) (.two (.tup (SqT.of ((e10.trans (e11.trans e12)) _ _ hm9)) TDs.strs) (.tup (SqT.of (e12 _ _ hm11)) TDs.strs)))
end
section
variable {P : Program} {w : World} {K : PySem.W.Frag} {mg : Str → Option Value} {base : Heap}
/-! ### sayings drawn -/
/-- how many past sayings stand in it -/
def Say.pc : Say → Nat
  | .lamp _ => 0 | .cst _ => 0
  | .one .nt s => s.pc | .one _ s => s.pc + 1
  | .two .si s t => s.pc + t.pc + 1 | .two _ s t => s.pc + t.pc
def dr : Nat → Nat
  | 0 => 2
  | n + 1 => 2 * dr n + 1
theorem Cnt.nt {H : Hp} {m : Addr} {i : Nat} (h : Cnt H m i) : ∀ zs, ¬ Rd H m (.tup zs) := nt_lst h
structure SArg (K : PySem.W.Frag) (H : Hp) (s m t lf : Addr) (ns : List Int) (names : List Str) (i left : Nat) : Prop where
  sq : SqS K H [m, lf] s ns
  nz : ns.length ≤ 1000
  ne : m ≠ lf
  mm : Cnt H m i
  ll : Cnt H lf left
  tt : SqT K H t (names.map V.str)
  n1 : 1 ≤ names.length
  n2 : names.length ≤ 10
theorem SArg.nt {H : Hp} {s m t lf : Addr} {ns : List Int} {names : List Str} {i left : Nat} (h : SArg K H s m t lf ns names i left) : NTup H [m, lf] := NTup.cons h.mm.nt (NTup.cons h.ll.nt NTup.nil)
theorem SArg.ex {H H' : Hp} {s m t lf : Addr} {ns : List Int} {names : List Str} {i left i' left' : Nat} (h : SArg K H s m t lf ns names i left) (e : SameEx [m, lf] H H') (h1 : Cnt H' m i') (h2 : Cnt H' lf left') : SArg K H' s m t lf ns names i' left' :=
  ⟨h.sq.ex e, h.nz, h.ne, h1, h2, e.tup h.nt _ _ h.tt, h.n1, h.n2⟩
theorem SArg.same {H H' : Hp} {s m t lf : Addr} {ns : List Int} {names : List Str} {i left : Nat} (h : SArg K H s m t lf ns names i left) (e : Same H H') : SArg K H' s m t lf ns names i left := h.ex (SameEx.of_same e) (e _ _ h.mm) (e _ _ h.ll)
theorem but_m {m lf : Addr} {H H' : Hp} (e : SameBut m H H') : SameEx [m, lf] H H' := SameEx.of_but e List.mem_cons_self
theorem but_l {m lf : Addr} {H H' : Hp} (e : SameBut lf H H') : SameEx [m, lf] H H' := SameEx.of_but e (List.mem_cons_of_mem _ List.mem_cons_self)
theorem SArg.next {H H' : Hp} {s m t lf : Addr} {ns : List Int} {names : List Str} {i left : Nat} (h : SArg K H s m t lf ns names i left) (e : SameBut m H H') (h1 : Cnt H' m (i + 1)) : SArg K H' s m t lf ns names (i + 1) left := h.ex (but_m e) h1 (e _ _ h.ne.symm h.ll)
theorem SArg.less {H H' : Hp} {s m t lf : Addr} {ns : List Int} {names : List Str} {i left left' : Nat} (h : SArg K H s m t lf ns names i left) (e : SameBut lf H H') (h1 : Cnt H' lf left') : SArg K H' s m t lf ns names i left' := h.ex (but_l e) (e _ _ h.ne h.mm) h1
def spLSay (K : PySem.W.Frag) (n : Nat) : Sp := fun vs H Q _ => ∃ (s m t lf : Addr) (ns : List Int) (names : List Str) (i d left : Nat), vs = [.ref s, .ref m, .ref t, .int (d : Nat), .ref lf] ∧ SArg K H s m t lf ns names i left ∧ d < n ∧ i + dr d ≤ 100000 ∧
  ∀ r (sy : Say) (j l' : Nat) H', SameEx [m, lf] H H' → SArg K H' s m t lf ns names j l' → j ≤ i + dr d → sy.pc + l' = left → sy.ov names → sy.dep ≤ d + 1 → TD K H' r sy.enc → Q r H'
theorem sc_law_saying : FnScope ["_law_script", "_law_m", "_law_names_here", "_law_deep", "_law_left", "_law_way", "_law_one"] ["_law_script", "_law_m", "_law_names_here", "_law_deep", "_law_left"] (defScope s_law_saying) := ⟨rfl, rfl, rfl, by decide +kernel, rfl, by decide +kernel, by decide +kernel⟩
theorem ok_lsaying0 (D : Hd K mg) : OkG P w K mg base "_law_saying" ["_law_script", "_law_m", "_law_names_here", "_law_deep", "_law_left"] 4 (spLSay K 0) := by
  obtain ⟨fd, F⟩ := F_law_saying D
  refine ⟨g_law_saying D, F.kp, fd, fnOk_none fun vs H Q E h => ?_, F.bindsN fun _ _ _ _ _ _ us hl => match us, hl with | [_, _, _, _, _], _ => rfl⟩
  obtain ⟨s, m, t, lf, ns, names, i, d, left, _, _, h1, _⟩ := h
  omega
theorem vint_eq {a c : Int} : decide (V.int a = V.int c) = decide (a = c) := by
  by_cases h : a = c
  · subst h; simp
  · rw [decide_eq_false h]
    exact decide_eq_false fun z => h (by injection z)
theorem o1_at : ∀ j : Nat, j < 3 → ∃ o : O1, o ≠ .nt ∧ ([V.str "before", V.str "once", V.str "sofar"])[j]? = some (.str o.str)
  | 0, _ => ⟨.bf, by decide, rfl⟩
  | 1, _ => ⟨.on, by decide, rfl⟩
  | 2, _ => ⟨.sf, by decide, rfl⟩
theorem o2_at : ∀ j : Nat, j < 4 → ∃ o : O2, o ≠ .si ∧ ([V.str "and", V.str "or", V.str "then", V.str "same"])[j]? = some (.str o.str)
  | 0, _ => ⟨.an, by decide, rfl⟩
  | 1, _ => ⟨.or, by decide, rfl⟩
  | 2, _ => ⟨.th, by decide, rfl⟩
  | 3, _ => ⟨.sm, by decide, rfl⟩
theorem yn_at : ∀ j : Nat, j < 2 → ∃ o : Bool, ([V.str "yes", V.str "no"])[j]? = some (.str (yn o))
  | 0, _ => ⟨true, rfl⟩
  | 1, _ => ⟨false, rfl⟩
theorem pc_one {o : O1} (h : o ≠ .nt) (s : Say) : (Say.one o s).pc = s.pc + 1 := by cases o <;> first | rfl | exact absurd rfl h
theorem pc_two {o : O2} (h : o ≠ .si) (s t : Say) : (Say.two o s t).pc = s.pc + t.pc := by cases o <;> first | rfl | exact absurd rfl h
theorem dr_pos (d : Nat) : 2 ≤ dr d := by
  induction d with
  | zero => exact Nat.le_refl _
  | succ d ih => show 2 ≤ 2 * dr d + 1; omega
theorem ok_lsaying1 (D : Hd K mg) {n : Nat} (G_law_saying : OkG P w K mg base "_law_saying" ["_law_script", "_law_m", "_law_names_here", "_law_deep", "_law_left"] (n + 4) (spLSay K n)) : OkG P w K mg base "_law_saying" ["_law_script", "_law_m", "_law_names_here", "_law_deep", "_law_left"] (n + 5) (spLSay K (n + 1)) := by
  have G_law_next := ok_next (P := P) (w := w) (base := base) D
  obtain ⟨fd, F⟩ := F_law_saying D
  refine ⟨g_law_saying D, F.kp, fd, F.ok sc_law_saying (fun vs H Q E h => ?_) (fun cdv A outer sS H vs Q E hr h => ?_), F.bindsN fun _ _ _ _ _ _ us hl => match us, hl with | [_, _, _, _, _], _ => rfl⟩
  · obtain ⟨s, m, t, lf, ns, names, i, d, left, rfl, _⟩ := h
    rfl
  obtain ⟨s, m, t, lf, ns, names, i, d, left, rfl, hA, hdn, hbd, q⟩ := h
  have hd2 := dr_pos d
  have nn1 := hA.n1
  refine ⟨_, (PSs.nox (pss_cons (ps_set (i := 5) sc_law_saying.nd rfl (Or.inl rfl) (pe_cl G_law_next hr (pa_cons (pv 0) (pa_cons (pv 1) (pa_cons pe_int pa_nil)))))
      (pss_cons (ps_if (PW.pt (pw_or (pt_cmpR op_eq (pv 3) pe_int (nomark _)) (pw_or1 (pt_cmpR op_lt (pv 5) pe_int (nomark _))))) (pss_one (ps_ret (pe_tup (pa_cons pe_str (pa_cons (pe_ix (ix_tupK K) (pv 2) (pe_cl G_law_next hr (pa_cons (pv 0) (pa_cons (pv 1) (pa_cons (pe_callB (cl_lenK K) (by rfl) (g_len D) (by decide +kernel) (pa_cons (pv 2) pa_nil)) pa_nil)))) (fun _ _ => rfl)) pa_nil))))) pss_nil)
      (pss_cons (ps_if (pt_cmpR op_eq (pv 5) pe_int (nomark _)) (pss_one (ps_ret (pe_tup (pa_cons (pe_ix (ix_listK K) (pe_lst (pa_cons pe_str (pa_cons pe_str pa_nil))) (pe_cl G_law_next hr (pa_cons (pv 0) (pa_cons (pv 1) (pa_cons pe_int pa_nil)))) (fun _ _ => rfl)) pa_nil)))) pss_nil)
      (pss_cons (ps_if (PW.pt (pw_and (pt_cmpR op_gt (pv 5) pe_int (nomark _)) (pw_and1 (pt_cmpR op_gt (pe_ix (ix_listK K) (pv 4) pe_int (fun _ _ => rfl)) pe_int (nomark _))))) (pss_cons (ps_asg (pe_op op_sub (pe_ix (ix_listK K) (pv 4) pe_int (fun _ _ => rfl)) pe_int) (pg_sub (pv 4) pe_int set_list))
      (pss_cons (ps_set (i := 6) sc_law_saying.nd rfl (Or.inl rfl) (pe_cl G_law_saying hr (pa_cons (pv 0) (pa_cons (pv 1) (pa_cons (pv 2) (pa_cons (pe_op op_sub (pv 3) pe_int) (pa_cons (pv 4) pa_nil)))))))
      (pss_cons (ps_if (pt_cmpR op_eq (pv 5) pe_int (nomark _)) (pss_one (ps_ret (pe_tup (pa_cons pe_str (pa_cons (pv 6) (pa_cons (pe_cl G_law_saying hr (pa_cons (pv 0) (pa_cons (pv 1) (pa_cons (pv 2) (pa_cons (pe_op op_sub (pv 3) pe_int) (pa_cons (pv 4) pa_nil)))))) pa_nil)))))) pss_nil)
      (pss_one (ps_ret (pe_tup (pa_cons (pe_ix (ix_listK K) (pe_lst (pa_cons pe_str (pa_cons pe_str (pa_cons pe_str pa_nil)))) (pe_op op_sub (pv 5) pe_int) (fun _ _ => rfl)) (pa_cons (pv 6) pa_nil)))))))) pss_nil)
      (pss_cons (ps_set (i := 6) sc_law_saying.nd rfl (Or.inl rfl) (pe_cl G_law_saying hr (pa_cons (pv 0) (pa_cons (pv 1) (pa_cons (pv 2) (pa_cons (pe_op op_sub (pv 3) pe_int) (pa_cons (pv 4) pa_nil)))))))
      (pss_cons (ps_if (PW.pt (pw_or (pt_cmpR op_eq (pv 5) pe_int (nomark _)) (pw_or1 (pt_cmpR op_gt (pv 5) pe_int (nomark _))))) (pss_one (ps_ret (pe_tup (pa_cons pe_str (pa_cons (pv 6) pa_nil))))) pss_nil)
      (pss_one (ps_ret (pe_tup (pa_cons (pe_ix (ix_listK K) (pe_lst (pa_cons pe_str (pa_cons pe_str (pa_cons pe_str (pa_cons pe_str pa_nil))))) (pe_op op_sub (pv 5) pe_int) (fun _ _ => rfl)) (pa_cons (pv 6) (pa_cons (pe_cl G_law_saying hr (pa_cons (pv 0) (pa_cons (pv 1) (pa_cons (pv 2) (pa_cons (pe_op op_sub (pv 3) pe_int) (pa_cons (pv 4) pa_nil)))))) pa_nil))))))))))))), ?_⟩
  walk_at "ga"
  refine ⟨s, m, ns, i, 13, rfl, hA.sq.sub fun x hx => by rw [List.mem_singleton.mp hx]; exact List.mem_cons_self, hA.nz, hA.mm, by omega, by omega, fun way H1 hway e1 hm1 => ?_⟩
  have hA1 := hA.next e1 hm1
  have x1 : SameEx [m, lf] H H1 := but_m e1
  walk_at "ga"
  rw [vint_eq]
  have subm : ∀ x ∈ [m], x ∈ [m, lf] := fun x hx => by rw [List.mem_singleton.mp hx]; exact List.mem_cons_self
  by_cases hl : d = 0 ∨ way < 3
  · -- a lamp
    have fin : ∀ {QQ : VK}, (∀ r (sy : Say) (j l' : Nat) H', SameEx [m, lf] H H' → SArg K H' s m t lf ns names j l' → j ≤ i + dr d → sy.pc + l' = left → sy.ov names → sy.dep ≤ d + 1 → TD K H' r sy.enc → QQ r H') →
        ∀ (r : Nat) H2, r < names.length → SameBut m H1 H2 → Cnt H2 m (i + 1 + 1) → ∀ x, names[r]? = some x → MkT [V.str "lamp", V.str x] H2 QQ := by
      intro QQ q r H2 hr e2 hm2 x hx
      refine l_mkT (by show 2 ≤ sizeLine; decide) fun p H3 e3 hp0 hp => ?_
      exact q _ (.lamp x) (i + 2) left H3 (x1.trans ((but_m e2).trans (SameEx.of_same e3))) ((hA1.next e2 hm2).same e3) (by omega) (by show 0 + left = left; omega) (List.mem_of_getElem? hx) (by show 1 ≤ d + 1; omega) (.tup (SqT.of hp) (.two (.str _) (.str _)))
    refine l_i2 (fun h0 => ?_) (fun h0 => ?_)
    · walk_at "ga"
      have tt1 := hA1.tt
      refine l_lenT tt1 ?_
      walk_at "ga"
      rw [List.length_map]
      refine ⟨s, m, ns, i + 1, names.length, rfl, hA1.sq.sub subm, hA.nz, hm1, by omega, by omega, fun r H2 hr e2 hm2 => ?_⟩
      have hx : names[r]? = some names[r] := List.getElem?_eq_getElem hr
      refine l_ixT (hA1.next e2 hm2).tt (atI_nat (v := .str names[r]) (by rw [List.getElem?_map, hx]; rfl)) ?_
      walk_at "ga"
      exact fin q r H2 hr e2 hm2 _ hx
    · have h0 := of_decide_eq_false h0
      walk_at "ga"
      refine l_iT (decide_eq_true (by omega)) ?_
      walk_at "ga"
      have tt1 := hA1.tt
      refine l_lenT tt1 ?_
      walk_at "ga"
      rw [List.length_map]
      refine ⟨s, m, ns, i + 1, names.length, rfl, hA1.sq.sub subm, hA.nz, hm1, by omega, by omega, fun r H2 hr e2 hm2 => ?_⟩
      have hx : names[r]? = some names[r] := List.getElem?_eq_getElem hr
      refine l_ixT (hA1.next e2 hm2).tt (atI_nat (v := .str names[r]) (by rw [List.getElem?_map, hx]; rfl)) ?_
      walk_at "ga"
      exact fin q r H2 hr e2 hm2 _ hx
  obtain ⟨d', rfl⟩ : ∃ d', d = d' + 1 := ⟨d - 1, by omega⟩
  have hdr : dr (d' + 1) = 2 * dr d' + 1 := rfl
  have hdp := dr_pos d'
  refine l_iF (decide_eq_false (by omega)) ?_
  walk_at "ga"
  refine l_iF (decide_eq_false (by omega)) ?_
  walk_at "ga"
  rw [vint_eq]
  refine l_i2 (fun h3 => ?_) (fun h3 => ?_)
  · -- yes, no
    walk_at "ga"
    refine l_mkL (by show 2 ≤ sizeLine; decide) fun lp H2 e2 hlp0 hlp => ?_
    have hA2 := hA1.same e2
    walk_at "ga"
    refine ⟨s, m, ns, i + 1, 2, rfl, hA2.sq.sub subm, hA.nz, hA2.mm, by omega, by omega, fun r H3 hr e3 hm3 => ?_⟩
    have hA3 := hA2.next e3 hm3
    have nlp : lp ≠ m := (ne_of_none hA1.mm hlp0).symm
    obtain ⟨o, ho⟩ := yn_at r hr
    refine l_ixL (SqL.of (e3 _ _ nlp hlp)) (atI_nat ho) ?_
    walk_at "ga"
    refine l_mkT (by show 1 ≤ sizeLine; decide) fun p H4 e4 hp0 hp => ?_
    exact q _ (.cst o) (i + 2) left H4 (x1.trans ((SameEx.of_same e2).trans ((but_m e3).trans (SameEx.of_same e4)))) (hA3.same e4) (by omega) (by show 0 + left = left; omega) trivial (by show 1 ≤ d' + 1 + 1; omega) (.tup (SqT.of hp) (.one (.str _)))
  have h3 := of_decide_eq_false h3
  have ed : ((d' + 1 : Nat) : Int) - 1 = (d' : Nat) := by omega
  have hll1 : H1 lf = some (.lst [.int (left : Nat)]) := hA1.ll
  have fin1 : ∀ {QQ : VK}, (∀ r (sy : Say) (j l' : Nat) H', SameEx [m, lf] H H' → SArg K H' s m t lf ns names j l' → j ≤ i + dr (d' + 1) → sy.pc + l' = left → sy.ov names → sy.dep ≤ d' + 1 + 1 → TD K H' r sy.enc → QQ r H') →
      ∀ (o : O1) (r1 : V) (s1 : Say) (j1 l1 : Nat) H3, SameEx [m, lf] H H3 → SArg K H3 s m t lf ns names j1 l1 → j1 ≤ i + dr (d' + 1) → (Say.one o s1).pc + l1 = left → s1.ov names → s1.dep ≤ d' + 1 → TD K H3 r1 s1.enc → MkT [V.str o.str, r1] H3 QQ := by
    intro QQ q o r1 s1 j1 l1 H3 x3 hA3 hj hpc hov hdep htd
    refine l_mkT (by show 2 ≤ sizeLine; decide) fun p H4 e4 hp0 hp => ?_
    exact q _ (.one o s1) j1 l1 H4 (x3.trans (SameEx.of_same e4)) (hA3.same e4) hj hpc hov (by show s1.dep + 1 ≤ d' + 1 + 1; omega) (.tup (SqT.of hp) (.two (.str _) (td_same e4 htd)))
  have fin2 : ∀ {QQ : VK}, (∀ r (sy : Say) (j l' : Nat) H', SameEx [m, lf] H H' → SArg K H' s m t lf ns names j l' → j ≤ i + dr (d' + 1) → sy.pc + l' = left → sy.ov names → sy.dep ≤ d' + 1 + 1 → TD K H' r sy.enc → QQ r H') →
      ∀ (o : O2) (r1 r2 : V) (s1 s2 : Say) (j1 l1 : Nat) H3, SameEx [m, lf] H H3 → SArg K H3 s m t lf ns names j1 l1 → j1 ≤ i + dr (d' + 1) → (Say.two o s1 s2).pc + l1 = left → s1.ov names → s2.ov names → s1.dep ≤ d' + 1 → s2.dep ≤ d' + 1 → TD K H3 r1 s1.enc → TD K H3 r2 s2.enc → MkT [V.str o.str, r1, r2] H3 QQ := by
    intro QQ q o r1 r2 s1 s2 j1 l1 H3 x3 hA3 hj hpc hov hov2 hdep hdep2 htd htd2
    refine l_mkT (by show 3 ≤ sizeLine; decide) fun p H4 e4 hp0 hp => ?_
    exact q _ (.two o s1 s2) j1 l1 H4 (x3.trans (SameEx.of_same e4)) (hA3.same e4) hj hpc ⟨hov, hov2⟩ (by show max s1.dep s2.dep + 1 ≤ d' + 1 + 1; omega) (.tup (SqT.of hp) (.three (.str _) (td_same e4 htd) (td_same e4 htd2)))
  walk_at "ga"
  refine l_i2 (fun h8 => ?_) (fun h8 => ?_)
  · have h8 := of_decide_eq_true h8
    walk_at "ga"
    refine l_i2 (fun hl0 => ?_) (fun hl0 => ?_)
    · -- a past saying
      have hl0 := of_decide_eq_true hl0
      obtain ⟨left', rfl⟩ : ∃ l', left = l' + 1 := ⟨left - 1, by omega⟩
      walk_at "ga"
      refine l_gsub ?_
      walk_at "ga"
      refine l_setI (t := 0) hll1 (Nat.lt_succ_self 0) fun H2 e2 hm2 => ?_
      have hm2 : H2 lf = some (.lst [.int (((left' + 1 : Nat) : Int) - 1)]) := hm2
      rw [show ((left' + 1 : Nat) : Int) - 1 = (left' : Nat) by omega] at hm2
      have hA2 := hA1.less e2 hm2
      have x2 : SameEx [m, lf] H H2 := x1.trans (but_l e2)
      walk_at "ga"
      rw [ed]
      refine ⟨s, m, t, lf, ns, names, i + 1, d', left', rfl, hA2, by omega, by omega, fun r1 s1 j1 l1 H3 x3 hA3 hj hpc hov hdep htd => ?_⟩
      have x23 := x2.trans x3
      walk_at "ga"
      rw [vint_eq]
      refine l_i2 (fun h12 => ?_) (fun h12 => ?_)
      · walk_at "ga"
        rw [ed]
        refine ⟨s, m, t, lf, ns, names, j1, d', l1, rfl, hA3, by omega, by omega, fun r2 s2 j2 l2 H4 x4 hA4 hj2 hpc2 hov2 hdep2 htd2 => ?_⟩
        walk_at "ga"
        exact fin2 q .si r1 r2 s1 s2 j2 l2 H4 (x23.trans x4) hA4 (by omega) (by show s1.pc + s2.pc + 1 + l2 = _; omega) hov hov2 hdep hdep2 (htd.mono (x4.tup hA3.nt)) htd2
      · have h12 := of_decide_eq_false h12
        walk_at "ga"
        refine l_mkL (by show 3 ≤ sizeLine; decide) fun lp H4 e4 hlp0 hlp => ?_
        walk_at "ga"
        obtain ⟨j, hj, ej⟩ : ∃ j : Nat, j < 3 ∧ (way : Int) - 9 = (j : Nat) := ⟨way - 9, by omega, by omega⟩
        rw [ej]
        obtain ⟨o, ho1, ho2⟩ := o1_at j hj
        refine l_ixL (SqL.of hlp) (atI_nat ho2) ?_
        walk_at "ga"
        exact fin1 q o r1 s1 j1 l1 H4 (x23.trans (SameEx.of_same e4)) (hA3.same e4) (by omega) (by rw [pc_one ho1]; omega) hov hdep (td_same e4 htd)
    · have hl0 := of_decide_eq_false hl0
      walk_at "ga"
      rw [ed]
      refine ⟨s, m, t, lf, ns, names, i + 1, d', left, rfl, hA1, by omega, by omega, fun r1 s1 j1 l1 H3 x3 hA3 hj hpc hov hdep htd => ?_⟩
      walk_at "ga"
      rw [vint_eq]
      refine l_iF (decide_eq_false (by omega)) ?_
      walk_at "ga"
      refine l_iT (decide_eq_true (by omega)) ?_
      walk_at "ga"
      exact fin1 q .nt r1 s1 j1 l1 H3 (x1.trans x3) hA3 (by omega) hpc hov hdep htd
  · have h8 := of_decide_eq_false h8
    walk_at "ga"
    rw [ed]
    refine ⟨s, m, t, lf, ns, names, i + 1, d', left, rfl, hA1, by omega, by omega, fun r1 s1 j1 l1 H3 x3 hA3 hj hpc hov hdep htd => ?_⟩
    walk_at "ga"
    rw [vint_eq]
    refine l_i2 (fun h4 => ?_) (fun h4 => ?_)
    · walk_at "ga"
      exact fin1 q .nt r1 s1 j1 l1 H3 (x1.trans x3) hA3 (by omega) hpc hov hdep htd
    · have h4 := of_decide_eq_false h4
      walk_at "ga"
      refine l_iF (decide_eq_false (by omega)) ?_
      walk_at "ga"
      refine l_mkL (by show 4 ≤ sizeLine; decide) fun lp H4 e4 hlp0 hlp => ?_
      walk_at "ga"
      obtain ⟨j, hj4, ej⟩ : ∃ j : Nat, j < 4 ∧ (way : Int) - 5 = (j : Nat) := ⟨way - 5, by omega, by omega⟩
      rw [ej]
      obtain ⟨o, ho1, ho2⟩ := o2_at j hj4
      refine l_ixL (SqL.of hlp) (atI_nat ho2) ?_
      walk_at "ga"
      rw [ed]
      refine ⟨s, m, t, lf, ns, names, j1, d', l1, rfl, hA3.same e4, by omega, by omega, fun r2 s2 j2 l2 H5 x5 hA5 hj2 hpc2 hov2 hdep2 htd2 => ?_⟩
      walk_at "ga"
      exact fin2 q o r1 r2 s1 s2 j2 l2 H5 ((x1.trans x3).trans ((SameEx.of_same e4).trans x5)) hA5 (by omega) (by rw [pc_two ho1]; omega) hov hov2 hdep hdep2 ((td_same e4 htd).mono (x5.tup (hA3.same e4).nt)) htd2
theorem ok_lsaying (D : Hd K mg) : ∀ n, OkG P w K mg base "_law_saying" ["_law_script", "_law_m", "_law_names_here", "_law_deep", "_law_left"] (n + 4) (spLSay K n)
  | 0 => ok_lsaying0 D
  | n + 1 => ok_lsaying1 D (ok_lsaying D n)
end
section
variable {P : Program} {w : World} {K : PySem.W.Frag} {mg : Str → Option Value} {base : Heap}
/-! ### a promise drawn -/
theorem free_ov {foe fr : List Str} (hd : ∀ x ∈ foe, x ∉ fr) : ∀ {s : Say}, s.ov foe → s.free fr = false
  | .lamp n, h => decide_eq_false (hd n h)
  | .cst _, _ => rfl
  | .one .bf s, h => rfl
  | .one .nt s, h => free_ov hd (s := s) h
  | .one .on s, h => free_ov hd (s := s) h
  | .one .sf s, h => free_ov hd (s := s) h
  | .two o s t, h => by
    show (s.free fr || t.free fr) = false
    rw [free_ov hd h.1, free_ov hd h.2]
    rfl
theorem o2p_at : ∀ j : Nat, j < 3 → ∃ o : O2, o ≠ .si ∧ ([V.str "then", V.str "or", V.str "same"])[j]? = some (.str o.str)
  | 0, _ => ⟨.th, by decide, rfl⟩
  | 1, _ => ⟨.or, by decide, rfl⟩
  | 2, _ => ⟨.sm, by decide, rfl⟩
theorem mem2 {a b : Addr} {S : List Addr} (h1 : a ∈ S) (h2 : b ∈ S) : ∀ x ∈ [a, b], x ∈ S := by
  intro x hx
  rcases List.mem_cons.mp hx with rfl | hx
  · exact h1
  · rw [List.mem_singleton.mp hx]; exact h2
/-- what is asked with a new list of nothing left -/
theorem SArg.zero {H H1 : Hp} {s m t t2 lf z : Addr} {ns : List Int} {names foe : List Str} {i left : Nat} (h : SArg K H s m t lf ns names i left) (e : Same H H1) (hz0 : H z = none) (hz : H1 z = some (.lst [.int 0])) (h1 : SqT K H1 t2 (foe.map V.str)) (n1 : 1 ≤ foe.length) (n2 : foe.length ≤ 10) :
    SArg K H1 s m t2 z ns foe i 0 :=
  ⟨((h.sq.add hz0).sub (mem2 (List.mem_cons_of_mem _ List.mem_cons_self) List.mem_cons_self)).same e, h.nz, ne_of_none h.mm hz0, e _ _ h.mm, hz, h1, n1, n2⟩
def spProm (K : PySem.W.Frag) : Sp := fun vs H Q _ => ∃ (s m fo t lf : Addr) (ns : List Int) (foe names : List Str) (i left : Nat), vs = [.ref s, .ref m, .ref fo, .ref t, .ref lf] ∧ SArg K H s m t lf ns names i left ∧ SqT K H fo (foe.map V.str) ∧ 1 ≤ foe.length ∧ foe.length ≤ 10 ∧ i ≤ 90000 ∧ (∀ x ∈ foe, x ∈ names) ∧
  ∀ r (sy : Say) (j l' : Nat) H', SameEx [m, lf] H H' → SArg K H' s m t lf ns names j l' → j ≤ i + 50 → sy.pc + l' = left → sy.ov names → sy.dep ≤ 4 → (∀ fr : List Str, (∀ x ∈ foe, x ∉ fr) → sy.free fr = false) → TD K H' r sy.enc → Q r H'
theorem sc_law_promise : FnScope ["_law_script", "_law_m", "_law_foe", "_law_names_here", "_law_left", "_law_one", "_law_other"] ["_law_script", "_law_m", "_law_foe", "_law_names_here", "_law_left"] (defScope s_law_promise) := ⟨rfl, rfl, rfl, by decide +kernel, rfl, by decide +kernel, by decide +kernel⟩
theorem ok_promise (D : Hd K mg) : OkG P w K mg base "_law_promise" ["_law_script", "_law_m", "_law_foe", "_law_names_here", "_law_left"] 7 (spProm K) := by
  have G_law_next := ok_next (P := P) (w := w) (base := base) D
  have G_law_saying := ok_lsaying (P := P) (w := w) (base := base) D 2
  obtain ⟨fd, F⟩ := F_law_promise D
  refine ⟨g_law_promise D, F.kp, fd, F.ok sc_law_promise (fun vs H Q E h => ?_) (fun cdv A outer sS H vs Q E hr h => ?_), F.bindsN fun _ _ _ _ _ _ us hl => match us, hl with | [_, _, _, _, _], _ => rfl⟩
  · obtain ⟨s, m, fo, t, lf, ns, foe, names, i, left, rfl, _⟩ := h
    rfl
  obtain ⟨s, m, fo, t, lf, ns, foe, names, i, left, rfl, hA, hfo, hf1, hf2, hi, hsub, q⟩ := h
  have hdr : dr 1 = 5 := rfl
  refine ⟨_, (PSs.nox (pss_cons (ps_set (i := 5) sc_law_promise.nd rfl (Or.inl rfl) (pe_cl G_law_saying hr (pa_cons (pv 0) (pa_cons (pv 1) (pa_cons (pv 2) (pa_cons pe_int (pa_cons (pe_lst (pa_cons pe_int pa_nil)) pa_nil)))))))
      (pss_cons (ps_if (PW.pt (pw_and (pt_cmpR op_gt (pe_ix (ix_listK K) (pv 4) pe_int (fun _ _ => rfl)) pe_int (nomark _)) (pw_and1 (pt_cmpR op_eq (pe_cl G_law_next hr (pa_cons (pv 0) (pa_cons (pv 1) (pa_cons pe_int pa_nil)))) pe_int (nomark _))))) (pss_cons (ps_asg (pe_op op_sub (pe_ix (ix_listK K) (pv 4) pe_int (fun _ _ => rfl)) pe_int) (pg_sub (pv 4) pe_int set_list))
      (pss_cons (ps_set (i := 6) sc_law_promise.nd rfl (Or.inl rfl) (pe_cl G_law_saying hr (pa_cons (pv 0) (pa_cons (pv 1) (pa_cons (pv 3) (pa_cons pe_int (pa_cons (pe_lst (pa_cons pe_int pa_nil)) pa_nil)))))))
      (pss_one (ps_ret (pe_tup (pa_cons (pe_ix (ix_listK K) (pe_lst (pa_cons pe_str (pa_cons pe_str (pa_cons pe_str pa_nil)))) (pe_cl G_law_next hr (pa_cons (pv 0) (pa_cons (pv 1) (pa_cons pe_int pa_nil)))) (fun _ _ => rfl)) (pa_cons (pe_tup (pa_cons pe_str (pa_cons (pv 6) pa_nil))) (pa_cons (pv 5) pa_nil)))))))) pss_nil)
      (pss_one (ps_ret (pv 5)))))), ?_⟩
  walk_at "ga"
  refine l_mkL (by show 1 ≤ sizeLine; decide) fun z H1 e1 hz0 hz => ?_
  have hA1 := hA.same e1
  have hfo1 := sqt_same e1 hfo
  walk_at "ga"
  refine ⟨s, m, fo, z, ns, foe, i, 1, 0, rfl, hA.zero e1 hz0 hz hfo1 hf1 hf2, by omega, by omega, fun r1 one j1 l1 H2 x2 hA2 hj1 hpc1 hov1 hdep1 htd1 => ?_⟩
  have x02 : SameEx [m, lf] H H2 := (SameEx.of_same e1).trans x2 |>.dropN fun x hx => by
    rcases List.mem_cons.mp hx with rfl | hx
    · exact .inl List.mem_cons_self
    · rw [List.mem_singleton.mp hx]; exact .inr hz0
  have nz : lf ≠ z := ne_of_none hA.ll hz0
  have hll2 : H2 lf = some (.lst [.int (left : Nat)]) := x2 _ _ (nin2 hA.ne.symm nz) hA1.ll
  have hB2 : SArg K H2 s m t lf ns names j1 left := hA.ex x02 hA2.mm hll2
  walk_at "ga"
  have plain : ∀ {QQ : VK}, (∀ r (sy : Say) (j l' : Nat) H', SameEx [m, lf] H H' → SArg K H' s m t lf ns names j l' → j ≤ i + 50 → sy.pc + l' = left → sy.ov names → sy.dep ≤ 4 → (∀ fr : List Str, (∀ x ∈ foe, x ∉ fr) → sy.free fr = false) → TD K H' r sy.enc → QQ r H') →
      ∀ H3 j, SameEx [m, lf] H2 H3 → SArg K H3 s m t lf ns names j left → j ≤ i + 50 → QQ r1 H3 := by
    intro QQ q H3 j x3 hA3 hj
    exact q r1 one j left H3 (x02.trans x3) hA3 hj (by omega) (Say.ov_mono hsub _ hov1) (by omega) (fun fr hfr => free_ov hfr hov1) (htd1.mono (x3.tup hB2.nt))
  refine l_i2 (fun h0 => ?_) (fun h0 => ?_)
  · have h0 := of_decide_eq_true h0
    obtain ⟨left', rfl⟩ : ∃ l', left = l' + 1 := ⟨left - 1, by omega⟩
    walk_at "ga"
    refine ⟨s, m, ns, j1, 2, rfl, hB2.sq.sub fun x hx => by rw [List.mem_singleton.mp hx]; exact List.mem_cons_self, hA.nz, hB2.mm, by omega, by omega, fun b H3 hb e3 hm3 => ?_⟩
    have hB3 := hB2.next e3 hm3
    walk_at "ga"
    rw [vint_eq]
    refine l_i2 (fun h1 => ?_) (fun h1 => ?_)
    · have hll3 : H3 lf = some (.lst [.int ((left' + 1 : Nat) : Int)]) := hB3.ll
      walk_at "ga"
      refine l_gsub ?_
      walk_at "ga"
      refine l_setI (t := 0) hll3 (Nat.lt_succ_self 0) fun H4 e4 hm4 => ?_
      have hm4 : H4 lf = some (.lst [.int (((left' + 1 : Nat) : Int) - 1)]) := hm4
      rw [show ((left' + 1 : Nat) : Int) - 1 = (left' : Nat) by omega] at hm4
      have hB4 := hB3.less e4 hm4
      have x24 : SameEx [m, lf] H2 H4 := (but_m e3).trans (but_l e4)
      walk_at "ga"
      refine l_mkL (by show 1 ≤ sizeLine; decide) fun z2 H5 e5 hz20 hz2 => ?_
      walk_at "ga"
      refine ⟨s, m, t, z2, ns, names, j1 + 1, 1, 0, rfl, hB4.zero e5 hz20 hz2 (sqt_same e5 hB4.tt) hA.n1 hA.n2, by omega, by omega, fun r2 oth j2 l2 H6 x6 hA6 hj2 hpc2 hov2 hdep2 htd2 => ?_⟩
      have x46 : SameEx [m, lf] H4 H6 := (SameEx.of_same e5).trans x6 |>.dropN fun x hx => by
        rcases List.mem_cons.mp hx with rfl | hx
        · exact .inl List.mem_cons_self
        · rw [List.mem_singleton.mp hx]; exact .inr hz20
      have hB6 : SArg K H6 s m t lf ns names j2 left' := hB4.ex x46 hA6.mm (x6 _ _ (nin2 hA.ne.symm (ne_of_none hm4 hz20)) (e5 _ _ hm4))
      have x26 := x24.trans x46
      walk_at "ga"
      refine l_mkL (by show 3 ≤ sizeLine; decide) fun lp H7 e7 hlp0 hlp => ?_
      have hB7 := hB6.same e7
      walk_at "ga"
      refine ⟨s, m, ns, j2, 3, rfl, hB7.sq.sub fun x hx => by rw [List.mem_singleton.mp hx]; exact List.mem_cons_self, hA.nz, hB7.mm, by omega, by omega, fun k H8 hk e8 hm8 => ?_⟩
      have hB8 := hB7.next e8 hm8
      have nlp : lp ≠ m := (ne_of_none hB6.mm hlp0).symm
      obtain ⟨o, ho1, ho2⟩ := o2p_at k hk
      refine l_ixL (SqL.of (e8 _ _ nlp hlp)) (atI_nat ho2) ?_
      walk_at "ga"
      refine l_mkT (by show 2 ≤ sizeLine; decide) fun p H9 e9 hp0 hp => ?_
      walk_at "ga"
      refine l_mkT (by show 3 ≤ sizeLine; decide) fun p2 H10 e10 hp20 hp2 => ?_
      have x68 : SameEx [m, lf] H6 H10 := (SameEx.of_same e7).trans ((but_m e8).trans (SameEx.of_same (e9.trans e10)))
      have x810 : SameEx [m, lf] H8 H10 := SameEx.of_same (e9.trans e10)
      have x2a := x26.trans x68
      refine q _ (.two o (.one .bf oth) one) (j2 + 1) left' H10 (x02.trans x2a) (hB8.same (e9.trans e10)) (by omega) ?_ ⟨hov2, Say.ov_mono hsub _ hov1⟩ ?_ (fun fr hfr => ?_) (.tup (SqT.of hp2) (.three (.str _) (.tup (SqT.of (e10 _ _ hp)) (.two (.str _) (htd2.mono (x68.tup hB6.nt)))) (htd1.mono (x2a.tup hB2.nt))))
      · rw [pc_two ho1]
        show oth.pc + 1 + one.pc + left' = _
        omega
      · show max (oth.dep + 1) one.dep + 1 ≤ 4
        omega
      · show (false || one.free fr) = false
        rw [free_ov hfr hov1]
        rfl
    · walk_at "ga"
      exact plain q H3 (j1 + 1) (but_m e3) hB3 (by omega)
  · walk_at "ga"
    exact plain q H2 j1 SameEx.refl hB2 (by omega)
end
/-! ### the book drawn -/
theorem gather_pc : ∀ (s : Say) (ms : List Say), (s.gather ms).length ≤ ms.length + s.pc
  | .lamp n, ms => by
    show (addS ms (.lamp n)).length ≤ ms.length + 0
    unfold addS
    rw [if_neg (fun z => by have := z.1; cases this)]
    exact Nat.le_refl _
  | .cst b, ms => by
    show (addS ms (.cst b)).length ≤ ms.length + 0
    unfold addS
    rw [if_neg (fun z => by have := z.1; cases this)]
    exact Nat.le_refl _
  | .one o s, ms => by
    have h1 := gather_pc s (addS ms (.one o s))
    show (s.gather (addS ms (.one o s))).length ≤ _
    by_cases ho : o = .nt
    · subst ho
      have e : addS ms (.one .nt s) = ms := by unfold addS; rw [if_neg (fun z => by have := z.1; cases this)]
      rw [e] at h1 ⊢
      exact h1
    · have h2 := addS_len ms (.one o s)
      rw [pc_one ho]
      omega
  | .two o s t, ms => by
    have h1 := gather_pc t (s.gather (addS ms (.two o s t)))
    have h2 := gather_pc s (addS ms (.two o s t))
    show (t.gather (s.gather (addS ms (.two o s t)))).length ≤ _
    by_cases ho : o = .si
    · subst ho
      have h3 := addS_len ms (.two .si s t)
      show _ ≤ ms.length + (s.pc + t.pc + 1)
      omega
    · have e : addS ms (.two o s t) = ms := by
        unfold addS
        rw [if_neg (fun z => by have := z.1; cases o <;> first | (exact absurd rfl ho) | cases this)]
      rw [e] at h1 h2 ⊢
      rw [pc_two ho]
      omega
def pcs (ss : List Say) : Nat := (ss.map Say.pc).sum
theorem pcs_app (a c : List Say) : pcs (a ++ c) = pcs a + pcs c := by unfold pcs; rw [List.map_append, List.sum_append]
theorem pcs_snoc (a : List Say) (s : Say) : pcs (a ++ [s]) = pcs a + s.pc := by
  rw [pcs_app]
  congr 1
theorem pieces_pc : ∀ (ss ms : List Say), (ss.foldl (fun ms s => s.gather ms) ms).length ≤ ms.length + pcs ss
  | [], ms => Nat.le_refl _
  | s :: ss, ms => by
    have h1 := pieces_pc ss (s.gather ms)
    have h2 := gather_pc s ms
    show (ss.foldl _ (s.gather ms)).length ≤ ms.length + (s.pc + pcs ss)
    omega
theorem n3_at : ∀ j : Nat, j < 3 → ∃ n : Nat, 0 < n ∧ n ≤ 99 ∧ ([V.int 3, V.int 9, V.int 99])[j]? = some (.int (n : Nat))
  | 0, _ => ⟨3, by decide, by decide, rfl⟩
  | 1, _ => ⟨9, by decide, by decide, rfl⟩
  | 2, _ => ⟨99, by decide, by decide, rfl⟩
section
variable {P : Program} {w : World} {K : PySem.W.Frag} {mg : Str → Option Value} {base : Heap}
theorem SArg.exN {H H' : Hp} {s m t lf : Addr} {ns : List Int} {names : List Str} {i left i' left' : Nat} {T : List Addr} (h : SArg K H s m t lf ns names i left) (e : SameEx T H H') (hT : ∀ x ∈ T, x = m ∨ x = lf ∨ H x = none) (h1 : Cnt H' m i') (h2 : Cnt H' lf left') : SArg K H' s m t lf ns names i' left' := by
  refine ⟨?_, h.nz, h.ne, h1, h2, e.tup (fun x hx zs => ?_) _ _ h.tt, h.n1, h.n2⟩
  · have n : s ∉ [m, lf] → Rd H s (.lst (ns.map V.int)) → s ∉ T := fun n q z => by
      rcases hT s z with z | z | z
      · exact n (by rw [z]; exact List.mem_cons_self)
      · exact n (by rw [z]; exact List.mem_cons_of_mem _ List.mem_cons_self)
      · rcases q with q | ⟨o, q⟩ <;> rw [z] at q <;> cases q
    rcases h.sq with ⟨q, nn⟩ | q
    · have n2 := n nn q
      rcases q with q | ⟨o, q⟩
      · exact .inl ⟨.inl (e _ _ n2 q), nn⟩
      · exact .inl ⟨.inr ⟨o, e _ _ n2 q⟩, nn⟩
    · exact .inr q
  · rcases hT x hx with z | z | z
    · rw [z]; exact h.mm.nt zs
    · rw [z]; exact h.ll.nt zs
    · exact nt_none z zs
theorem SArg.nt3 {H : Hp} {s m t lf x : Addr} {ns : List Int} {names : List Str} {i left : Nat} (h : SArg K H s m t lf ns names i left) (hx : H x = none) : NTup H [m, lf, x] := NTup.cons h.mm.nt (NTup.cons h.ll.nt (NTup.cons (nt_none hx) NTup.nil))
theorem t3 {m lf x : Addr} {H : Hp} (hx : H x = none) : ∀ y ∈ [m, lf, x], y = m ∨ y = lf ∨ H y = none := by
  intro y hy
  rcases List.mem_cons.mp hy with hy | hy
  · exact .inl hy
  rcases List.mem_cons.mp hy with hy | hy
  · exact .inr (.inl hy)
  · rw [List.mem_singleton.mp hy]; exact .inr (.inr hx)
theorem ex2_3 {m lf x : Addr} {H H' : Hp} (e : SameEx [m, lf] H H') : SameEx [m, lf, x] H H' := fun b o n q => e b o (fun z => n (by
  rcases List.mem_cons.mp z with z | z
  · rw [z]; exact List.mem_cons_self
  · rw [List.mem_singleton.mp z]; exact List.mem_cons_of_mem _ List.mem_cons_self)) q
def SayOk (names : List Str) (s : Say) : Prop := s.ov names ∧ s.dep ≤ 4
def spLBook (K : PySem.W.Frag) : Sp := fun vs H Q _ => ∃ (s : Addr) (ns : List Int) (i : Nat), vs = [.ref s, .int (i : Nat), .int 3, .int 1] ∧ SqL K H s (ns.map V.int) ∧ ns.length ≤ 1000 ∧ i ≤ 1000 ∧
  ∀ r (b : Book) H', Same H H' → b.Ok → TD K H' r b.enc → Q r H'
theorem sc_law_book : FnScope ["_law_script", "_law_at", "_law_pieces", "_law_musts", "_law_m", "_law_foe", "_law_friend", "_law_names_here", "_law_left", "_law_wishes", "_law_k", "_law_price", "_law_some", "_law_known"] ["_law_script", "_law_at", "_law_pieces", "_law_musts"] (defScope s_law_book) := ⟨rfl, rfl, rfl, by decide +kernel, rfl, by decide +kernel, by decide +kernel⟩
theorem ok_lbook (D : Hd K mg) : OkG P w K mg base "_law_book" ["_law_script", "_law_at", "_law_pieces", "_law_musts"] 8 (spLBook K) := by
  have G_law_next := ok_next (P := P) (w := w) (base := base) D
  have G_law_names := ok_names (P := P) (w := w) (base := base) D
  have G_law_saying := ok_lsaying (P := P) (w := w) (base := base) D 3
  have G_law_promise := ok_promise (P := P) (w := w) (base := base) D
  obtain ⟨fd, F⟩ := F_law_book D
  refine ⟨g_law_book D, F.kp, fd, F.ok sc_law_book (fun vs H Q E h => ?_) (fun cdv A outer sS H vs Q E hr h => ?_), F.bindsN fun _ _ _ _ _ _ us hl => match us, hl with | [_, _, _, _], _ => rfl⟩
  · obtain ⟨s, ns, i, rfl, _⟩ := h
    rfl
  obtain ⟨s, ns, i, rfl, hs, hz, hi, q⟩ := h
  have hdr : dr 2 = 11 := rfl
  refine ⟨_, (PSs.nox (pss_cons (ps_set (i := 4) sc_law_book.nd rfl (Or.inr rfl) (pe_lst (pa_cons (pv 1) pa_nil)))
      (pss_cons (ps_asg (pe_cl G_law_names hr (pa_cons (pv 0) (pa_cons (pv 4) pa_nil))) (pg_tupK K (n := 2) rfl (pgs_cons (pg_name (i := 5) sc_law_book.nd rfl (Or.inr rfl)) (pgs_cons (pg_name (i := 6) sc_law_book.nd rfl (Or.inl rfl)) pgs_nil))))
      (pss_cons (ps_set (i := 7) sc_law_book.nd rfl (Or.inr rfl) (pe_op (op_catAK K) (pv 5) (pv 6)))
      (pss_cons (ps_set (i := 8) sc_law_book.nd rfl (Or.inr rfl) (pe_lst (pa_cons (pe_cl G_law_next hr (pa_cons (pv 0) (pa_cons (pv 4) (pa_cons (pe_op op_add (pv 2) pe_int) pa_nil)))) pa_nil)))
      (pss_cons (ps_set (i := 9) sc_law_book.nd rfl (Or.inl rfl) (pe_lst pa_nil))
      (pss_cons (ps_for PassesOwn.never rfl (pi_range1 (by rfl) (g_range D) (pa_cons (pe_op op_add pe_int (pe_cl G_law_next hr (pa_cons (pv 0) (pa_cons (pv 4) (pa_cons pe_int pa_nil))))) pa_nil)) (pg_name (i := 10) sc_law_book.nd rfl (Or.inl rfl)) (pss_cons (ps_set (i := 11) sc_law_book.nd rfl (Or.inl rfl) (pe_op op_add pe_int (pe_cl G_law_next hr (pa_cons (pv 0) (pa_cons (pv 4) (pa_cons (pe_ix (ix_listK K) (pe_lst (pa_cons pe_int (pa_cons pe_int (pa_cons pe_int pa_nil)))) (pe_cl G_law_next hr (pa_cons (pv 0) (pa_cons (pv 4) (pa_cons pe_int pa_nil)))) (fun _ _ => rfl)) pa_nil))))))
      (pss_one (ps_expr (pe_bmK K PySem.F.plainAttrs_list PySem.F.slot_list_append PySem.F.type_list_append mt_append (pv 9) (pa_cons (pe_tup (pa_cons (pv 11) (pa_cons (pe_cl G_law_saying hr (pa_cons (pv 0) (pa_cons (pv 4) (pa_cons (pv 7) (pa_cons pe_int (pa_cons (pv 8) pa_nil)))))) pa_nil))) pa_nil))))))
      (pss_cons (ps_setLc (i := 12) (own := [("_law_k", 10)]) (g := gName 10) (tt := tYes) (by rfl) sc_law_book.nd rfl rfl (sw_true rfl rfl rfl (by decide +kernel)) (pi_range1 (by rfl) (g_range D) (pa_cons (pe_cl G_law_next hr (pa_cons (pv 0) (pa_cons (pv 4) (pa_cons (pe_op op_add (pv 3) pe_int) pa_nil)))) pa_nil)) (blkOk_by (N := ["_law_script", "_law_at", "_law_pieces", "_law_musts", "_law_m", "_law_foe", "_law_friend", "_law_names_here", "_law_left", "_law_wishes", "_law_k", "_law_price", "_law_some", "_law_known"]) (sc := defScope s_law_book) (by decide +kernel)) (fun _ _ _ _ _ => (pg_name (i := 10) sc_law_book.nd rfl (Or.inl rfl))) (fun _ _ _ _ _ => pts_nil) (fun _ _ _ _ _ => (pe_cl G_law_saying hr (pa_cons (pv 0) (pa_cons (pv 4) (pa_cons (pv 7) (pa_cons pe_int (pa_cons (pv 8) pa_nil))))))))
      (pss_cons (ps_setLc (i := 13) (own := [("_law_k", 10)]) (g := gName 10) (tt := tYes) (by rfl) sc_law_book.nd rfl rfl (sw_true rfl rfl rfl (by decide +kernel)) (pi_range1 (by rfl) (g_range D) (pa_cons (pe_cl G_law_next hr (pa_cons (pv 0) (pa_cons (pv 4) (pa_cons pe_int pa_nil)))) pa_nil)) (blkOk_by (N := ["_law_script", "_law_at", "_law_pieces", "_law_musts", "_law_m", "_law_foe", "_law_friend", "_law_names_here", "_law_left", "_law_wishes", "_law_k", "_law_price", "_law_some", "_law_known"]) (sc := defScope s_law_book) (by decide +kernel)) (fun _ _ _ _ _ => (pg_name (i := 10) sc_law_book.nd rfl (Or.inl rfl))) (fun _ _ _ _ _ => pts_nil) (fun _ _ _ _ _ => (pe_cl G_law_promise hr (pa_cons (pv 0) (pa_cons (pv 4) (pa_cons (pv 5) (pa_cons (pv 7) (pa_cons (pv 8) pa_nil))))))))
      (pss_one (ps_ret (pe_tup (pa_cons (pv 5) (pa_cons (pv 6) (pa_cons (pe_callTy (cl_tupK K) (by rfl) (g_tuple D) (by decide +kernel) (pa_cons (pv 13) pa_nil)) (pa_cons (pe_callTy (cl_tupK K) (by rfl) (g_tuple D) (by decide +kernel) (pa_cons (pv 12) pa_nil)) (pa_cons (pe_callTy (cl_tupK K) (by rfl) (g_tuple D) (by decide +kernel) (pa_cons (pv 9) pa_nil)) pa_nil))))))))))))))))), ?_⟩
  walk_at "ga"
  refine l_mkL (by show 1 ≤ sizeLine; decide) fun m H1 e1 hm0 hm => ?_
  have hm : Cnt H1 m i := hm
  have hs1 : SqS K H1 [m] s ns := ((SqS.of hs).add hm0).same e1
  walk_at "ga"
  refine ⟨s, m, ns, i, rfl, hs1, hz, hm, by omega, fun r1 f g H2 e2 hm2 f1 f2 g1 g2 hnd hln htd => ?_⟩
  obtain ⟨a1, y1, y2, rfl, hT, hy1, hy2⟩ := htd.t2
  obtain ⟨fo, xs1, rfl, hfo, hxs1⟩ := hy1.tup_inv
  cases hxs1.strs_inv
  obtain ⟨fr, xs2, rfl, hfr, hxs2⟩ := hy2.tup_inv
  cases hxs2.strs_inv
  walk_at "ga"
  refine l_catD hfo hfr (sz (by rw [List.length_map, List.length_map]; omega)) fun t H3 e3 ht => ?_
  rw [← List.map_append] at ht
  have hs3 : SqS K H3 [m] s ns := (hs1.ex (SameEx.of_but e2 (List.mem_singleton.mpr rfl))).same e3
  walk_at "ga"
  refine ⟨s, m, ns, i + 3, 4, rfl, hs3, hz, e3 _ _ hm2, by omega, by omega, fun left0 H4 hl0 e4 hm4 => ?_⟩
  walk_at "ga"
  refine l_mkL (by show 1 ≤ sizeLine; decide) fun lf H5 e5 hlf0 hlf => ?_
  have e15 : SameBut m H1 H5 := (e2.trans (SameBut.of_same e3)).trans (e4.trans (SameBut.of_same e5))
  have e05 : Same H H5 := e15.same e1 hm0
  have ht4 : SqT K H4 t ((f ++ g).map V.str) := e4.tup (e3 _ _ hm2) _ _ ht
  have hA5 : SArg K H5 s m t lf ns (f ++ g) (i + 4) left0 :=
    ⟨(((hs3.ex (SameEx.of_but e4 (List.mem_singleton.mpr rfl))).add hlf0).sub (mem2 (List.mem_cons_of_mem _ List.mem_cons_self) List.mem_cons_self)).same e5, hz, ne_of_none hm4 hlf0, e5 _ _ hm4, hlf, sqt_same e5 ht4, by rw [List.length_append]; omega, by rw [List.length_append]; omega⟩
  have hfo5 : SqT K H5 fo (f.map V.str) := (TupX.same e5) _ _ (e4.tup (e3 _ _ hm2) _ _ (sqt_same e3 hfo))
  have hfr5 : SqT K H5 fr (g.map V.str) := (TupX.same e5) _ _ (e4.tup (e3 _ _ hm2) _ _ (sqt_same e3 hfr))
  have hT5 := (TupX.same e5) _ _ (e4.tup (e3 _ _ hm2) _ _ (sqt_same e3 hT))
  clear hs1 hs3 hT hfo hfr ht ht4
  have subm : ∀ x ∈ [m], x ∈ [m, lf] := fun x hx => by rw [List.mem_singleton.mp hx]; exact List.mem_cons_self
  walk_at "ga"
  refine l_mkL0 fun wl H6 e6 hwl0 hwl => ?_
  have hA6 := hA5.same e6
  walk_at "ga"
  refine ⟨s, m, ns, i + 4, 3, rfl, hA6.sq.sub subm, hz, hA6.mm, by omega, by omega, fun wn H7 hwn e7 hm7 => ?_⟩
  have hA7 := hA6.next e7 hm7
  have nwm : wl ≠ m := (ne_of_none hA5.mm hwl0).symm
  have nwl : wl ≠ lf := (ne_of_none hA5.ll hwl0).symm
  have hwl7 : H7 wl = some (.lst []) := e7 _ _ nwm hwl
  walk_at "ga"
  rw [show (1 : Int) + (wn : Nat) = ((wn + 1 : Nat) : Int) by omega]
  have nt5 : NTup H5 [m, lf, wl] := hA5.nt3 hwl0
  refine forR (fun k σ' H' => ∃ (z10 z11 : Option V) (j left : Nat) (ws : List V) (wsh : List (Int × Say)), σ' = [some (.ref s), some (.int (i : Nat)), some (.int 3), some (.int 1), some (.ref m), some (.ref fo), some (.ref fr), some (.ref t), some (.ref lf), some (.ref wl), z10, z11, none, none] ∧
      SameEx [m, lf, wl] H5 H' ∧ SArg K H' s m t lf ns (f ++ g) j left ∧ j ≤ i + 5 + 20 * k ∧ H' wl = some (.lst ws) ∧ TDs K H' ws (wsh.map encWish) ∧ wsh.length = k ∧ pcs (wsh.map (·.2)) + left = left0 ∧ ∀ p ∈ wsh, 1 ≤ p.1 ∧ p.1 ≤ 99 ∧ SayOk (f ++ g) p.2)
    (by omega) ⟨_, _, i + 5, left0, [], [], rfl, (SameEx.of_same e6).trans (SameEx.of_but e7 List.mem_cons_self), hA7, by omega, hwl7, .nil, rfl, by show 0 + left0 = left0; omega, fun p hp => nomatch hp⟩ (fun k σ' H' hk h => ?_) (fun σ' H' h => ?_)
  · obtain ⟨z10, z11, j, left, ws, wsh, rfl, x, hA, hj, hws, hwd, hwl, hpc, hok⟩ := h
    walk_at "ga"
    refine l_mkL (by show 3 ≤ sizeLine; decide) fun lp H9 e9 hlp0 hlp => ?_
    have hA9 := hA.same e9
    walk_at "ga"
    refine ⟨s, m, ns, j, 3, rfl, hA9.sq.sub subm, hz, hA9.mm, by omega, by omega, fun c H10 hc e10 hm10 => ?_⟩
    have hA10 := hA9.next e10 hm10
    obtain ⟨n, hn0, hn99, hn⟩ := n3_at c hc
    refine l_ixL (SqL.of (e10 _ _ (ne_of_none hA.mm hlp0).symm hlp)) (atI_nat hn) ?_
    walk_at "ga"
    refine ⟨s, m, ns, j + 1, n, rfl, hA10.sq.sub subm, hz, hA10.mm, by omega, by omega, fun pr H11 hpr e11 hm11 => ?_⟩
    have hA11 := hA10.next e11 hm11
    have x11 : SameEx [m, lf] H' H11 := (SameEx.of_same e9).trans ((but_m e10).trans (but_m e11))
    have hws11 : H11 wl = some (.lst ws) := x11 _ _ (nin2 nwm nwl) hws
    walk_at "ga"
    rw [show (1 : Int) + (pr : Nat) = ((pr + 1 : Nat) : Int) by omega]
    refine ⟨tyv_list (SqL.of hws11), ?_⟩
    walk_at "ga"
    refine ⟨s, m, t, lf, ns, f ++ g, j + 2, 2, left, rfl, hA11, by omega, by omega, fun r2 sy j2 l2 H12 x12 hA12 hj2 hpc2 hov2 hdep2 htd2 => ?_⟩
    walk_at "ga"
    refine l_mkT (by show 2 ≤ sizeLine; decide) fun p H13 e13 hp0 hp => ?_
    walk_at "ga"
    have x13 : SameEx [m, lf] H' H13 := x11.trans (x12.trans (SameEx.of_same e13))
    have hws13 : H13 wl = some (.lst ws) := x13 _ _ (nin2 nwm nwl) hws
    have hA13 := hA12.same e13
    have hwsl : ws.length ≤ 3 := by rw [hwd.length, List.length_map]; omega
    refine l_appN hws13 (szl (by omega)) fun H14 e14 hm14 => ?_
    have t14 : TupX K H13 H14 := e14.tup hws13
    have x014 : SameEx [m, lf, wl] H5 H14 := x.trans ((ex2_3 x13).trans (SameEx.of_but e14 (by simp)))
    refine ⟨_, _, j2, l2, _, wsh ++ [(((pr + 1 : Nat) : Int), sy)], rfl, x014, hA5.exN x014 (t3 hwl0) (e14 _ _ nwm.symm hA13.mm) (e14 _ _ nwl.symm hA13.ll), by omega, hm14, ?_, by rw [List.length_append, hwl]; rfl, ?_, ?_⟩
    · rw [List.map_append]
      refine TDs.append ((hwd.mono (x13.tup hA.nt)).mono t14) (.one (.tup (t14 _ _ (SqT.of hp)) (.two (.int _) ((td_same e13 htd2).mono t14))))
    · rw [List.map_append, pcs_app]
      show pcs (wsh.map (·.2)) + (sy.pc + 0) + l2 = left0
      omega
    · intro p hp
      rcases List.mem_append.mp hp with hp | hp
      · exact hok p hp
      · rw [List.mem_singleton.mp hp]
        exact ⟨by show (1 : Int) ≤ ((pr + 1 : Nat) : Int); omega, by show ((pr + 1 : Nat) : Int) ≤ 99; omega, hov2, Nat.le_trans hdep2 (by decide)⟩
  obtain ⟨z10, z11, j, left, ws, wsh, rfl, x8, hA8, hj, hws8, hwd8, hwl8, hpc8, hok8⟩ := h
  walk_at "ga"
  refine ⟨s, m, ns, j, 2, rfl, hA8.sq.sub subm, hz, hA8.mm, by omega, by omega, fun mn H9 hmn e9 hm9 => ?_⟩
  have hA9 := hA8.next e9 hm9
  have x9 : SameEx [m, lf, wl] H5 H9 := x8.trans (SameEx.of_but e9 List.mem_cons_self)
  have hws9 := e9 _ _ nwm hws8
  have hwd9 := hwd8.mono ((but_m e9).tup hA8.nt)
  walk_at "ga"
  refine lcRP (fun Dd k H' => ∃ (j left : Nat) (us : List V) (ss : List Say), SameEx [m, lf, Dd] H9 H' ∧ SArg K H' s m t lf ns (f ++ g) j left ∧ j ≤ i + 80 + 20 * k ∧ H' Dd = some (.lst us) ∧ TDs K H' us (ss.map Say.enc) ∧ ss.length = k ∧ pcs (wsh.map (·.2)) + pcs ss + left = left0 ∧ ∀ x ∈ ss, SayOk (f ++ g) x)
    (by omega) (fun Dd hD => ?_) (fun Dd k H' hD hk h => ?_) (fun Dd H10 hD h => ?_)
  · exact ⟨j + 1, left, [], [], SameEx.of_same (same_new hD), hA9.same (same_new hD), by omega, upd_same, .nil, rfl, hpc8, fun x hx => nomatch hx⟩
  · obtain ⟨j1, left1, us, ss, x10, hA10, hj10, hus, hud, hul, hpc10, hok10⟩ := h
    walk_at "go"
    refine ⟨rfl, ?_⟩
    walk_at "ga"
    refine ⟨s, m, t, lf, ns, f ++ g, j1, 2, left1, rfl, hA10, by omega, by omega, fun r2 sy j2 l2 H12 x12 hA12 hj2 hpc2 hov2 hdep2 htd2 => ?_⟩
    have nDm : Dd ≠ m := (ne_of_none hA9.mm hD).symm
    have nDl : Dd ≠ lf := (ne_of_none hA9.ll hD).symm
    have hus12 : H12 Dd = some (.lst us) := x12 _ _ (nin2 nDm nDl) hus
    have hwsl : us.length ≤ 3 := by rw [hud.length, List.length_map]; omega
    have t13 : TupX K H12 (upd H12 Dd (.lst (us ++ [r2]))) := TupX.lst hus12
    have x13 : SameEx [m, lf, Dd] H9 (upd H12 Dd (.lst (us ++ [r2]))) := x10.trans ((ex2_3 x12).trans (SameEx.upd (by simp)))
    refine ⟨us, hus12, szl (by omega), j2, l2, _, ss ++ [sy], x13, hA9.exN x13 (t3 hD) (get_ne nDm.symm hA12.mm) (get_ne nDl.symm hA12.ll), by omega, upd_same, ?_, by rw [List.length_append, hul]; rfl, by rw [pcs_snoc]; omega, fun x hx => ?_⟩
    · rw [List.map_append]
      exact TDs.append ((hud.mono (x12.tup hA10.nt)).mono t13) (.one (htd2.mono t13))
    · rcases List.mem_append.mp hx with hx | hx
      · exact hok10 x hx
      · rw [List.mem_singleton.mp hx]
        exact ⟨hov2, Nat.le_trans hdep2 (by decide)⟩
  obtain ⟨j1, left1, us1, ss1, x10, hA10, hj10, hus1, hud1, hul1, hpc10, hok10⟩ := h
  have nDw : wl ≠ Dd := ne_of_none hws9 hD
  have hws10 : H10 wl = some (.lst ws) := x10 _ _ (nin3 nwm nwl nDw) hws9
  have t910 : TupX K H9 H10 := x10.tup (hA9.nt3 hD)
  have hwd10 := hwd9.mono t910
  walk_at "ga"
  refine ⟨s, m, ns, j1, 2, rfl, hA10.sq.sub subm, hz, hA10.mm, by omega, by omega, fun pn H11 hpn e11 hm11 => ?_⟩
  have hA11 := hA10.next e11 hm11
  have nDm : Dd ≠ m := (ne_of_none hA9.mm hD).symm
  have nDl : Dd ≠ lf := (ne_of_none hA9.ll hD).symm
  have hus11 := e11 _ _ nDm hus1
  have hws11 := e11 _ _ nwm hws10
  have t11 : TupX K H10 H11 := (but_m e11).tup hA10.nt
  have hud11 := hud1.mono t11
  have hwd11 := hwd10.mono t11
  have t511 : TupX K H5 H11 := ((x9.tup nt5).trans t910).trans t11
  have hfo11 := t511 _ _ hfo5
  have hfr11 := t511 _ _ hfr5
  walk_at "ga"
  refine lcRP (fun Dd k H' => ∃ (j left : Nat) (us : List V) (ss : List Say), SameEx [m, lf, Dd] H11 H' ∧ SArg K H' s m t lf ns (f ++ g) j left ∧ j ≤ i + 200 + 50 * k ∧ H' Dd = some (.lst us) ∧ TDs K H' us (ss.map Say.enc) ∧ ss.length = k ∧ pcs (wsh.map (·.2)) + pcs ss1 + pcs ss + left = left0 ∧ ∀ x ∈ ss, SayOk (f ++ g) x ∧ x.free g = false)
    (by omega) (fun D2 hD2 => ?_) (fun D2 k H' hD2 hk h => ?_) (fun D2 H12 hD2 h => ?_)
  · exact ⟨j1 + 1, left1, [], [], SameEx.of_same (same_new hD2), hA11.same (same_new hD2), by omega, upd_same, .nil, rfl, hpc10, fun x hx => nomatch hx⟩
  · obtain ⟨j2, left2, us, ss, x12, hA12, hj12, hus, hud, hul, hpc12, hok12⟩ := h
    walk_at "go"
    refine ⟨rfl, ?_⟩
    walk_at "ga"
    refine ⟨s, m, fo, t, lf, ns, f, f ++ g, j2, left2, rfl, hA12, (x12.tup (hA11.nt3 hD2)) _ _ hfo11, by omega, by omega, by omega, fun x hx => List.mem_append_left _ hx, fun r2 sy j3 l3 H13 x13 hA13 hj3 hpc3 hov3 hdep3 hfree3 htd3 => ?_⟩
    have nDm : D2 ≠ m := (ne_of_none hA11.mm hD2).symm
    have nDl : D2 ≠ lf := (ne_of_none hA11.ll hD2).symm
    have hus13 : H13 D2 = some (.lst us) := x13 _ _ (nin2 nDm nDl) hus
    have hwsl : us.length ≤ 3 := by rw [hud.length, List.length_map]; omega
    have t14 : TupX K H13 (upd H13 D2 (.lst (us ++ [r2]))) := TupX.lst hus13
    have x14 : SameEx [m, lf, D2] H11 (upd H13 D2 (.lst (us ++ [r2]))) := x12.trans ((ex2_3 x13).trans (SameEx.upd (by simp)))
    refine ⟨us, hus13, szl (by omega), j3, l3, _, ss ++ [sy], x14, hA11.exN x14 (t3 hD2) (get_ne nDm.symm hA13.mm) (get_ne nDl.symm hA13.ll), by omega, upd_same, ?_, by rw [List.length_append, hul]; rfl, by rw [pcs_snoc]; omega, fun x hx => ?_⟩
    · rw [List.map_append]
      exact TDs.append ((hud.mono (x13.tup hA12.nt)).mono t14) (.one (htd3.mono t14))
    · rcases List.mem_append.mp hx with hx | hx
      · exact hok12 x hx
      · rw [List.mem_singleton.mp hx]
        refine ⟨⟨hov3, hdep3⟩, hfree3 g fun x hx hg => ?_⟩
        exact (List.nodup_append.mp hnd).2.2 x hx x hg rfl
  obtain ⟨j2, left2, us2, ss2, x12, hA12, hj12, hus2, hud2, hul2, hpc12, hok12⟩ := h
  have nDw2 : wl ≠ D2 := ne_of_none hws11 hD2
  have nD12 : Dd ≠ D2 := ne_of_none hus11 hD2
  have t12 : TupX K H11 H12 := x12.tup (hA11.nt3 hD2)
  have hws12 : H12 wl = some (.lst ws) := x12 _ _ (nin3 nwm nwl nDw2) hws11
  have hus12 : H12 Dd = some (.lst us1) := x12 _ _ (nin3 nDm nDl nD12) hus11
  have hwd12 := hwd11.mono t12
  have hud12 := hud11.mono t12
  have t512 := t511.trans t12
  -- all that is new
  have zlf : H lf = none := ((e2.trans (SameBut.of_same e3)).trans e4 |>.same e1 hm0).free hlf0
  have s9 : Same H H9 := SameEx.same (none3 hm0 zlf (e05.free hwl0)) ((SameEx.of_same e05).trans x9)
  have s10 : Same H H10 := SameEx.same (none3 hm0 zlf (s9.free hD)) ((SameEx.of_same s9).trans x10)
  have s11 : Same H H11 := e11.same s10 hm0
  have s12 : Same H H12 := SameEx.same (none3 hm0 zlf (s11.free hD2)) ((SameEx.of_same s11).trans x12)
  have hfo12 := t512 _ _ hfo5
  have hfr12 := t512 _ _ hfr5
  walk_at "ga"
  refine l_tupL (SqL.of hus2) fun p1 hp10 => ?_
  have e13 : Same H12 (upd H12 p1 (.tup us2)) := same_new hp10
  have hp1 : upd H12 p1 (.tup us2) p1 = some (.tup us2) := upd_same
  revert e13 hp1
  generalize upd H12 p1 (.tup us2) = H13
  intro e13 hp1
  walk_at "ga"
  refine l_tupL (SqL.of (e13 _ _ hus12)) fun p2 hp20 => ?_
  have e14 : Same H13 (upd H13 p2 (.tup us1)) := same_new hp20
  have hp2 : upd H13 p2 (.tup us1) p2 = some (.tup us1) := upd_same
  revert e14 hp2
  generalize upd H13 p2 (.tup us1) = H14
  intro e14 hp2
  walk_at "ga"
  refine l_tupL (SqL.of ((e13.trans e14) _ _ hws12)) fun p3 hp30 => ?_
  have e15' : Same H14 (upd H14 p3 (.tup ws)) := same_new hp30
  have hp3 : upd H14 p3 (.tup ws) p3 = some (.tup ws) := upd_same
  revert e15' hp3
  generalize upd H14 p3 (.tup ws) = H15
  intro e15' hp3
  walk_at "ga"
  refine l_mkT (by show 5 ≤ sizeLine; decide) fun p4 H16 e16 hp40 hp4 => ?_
  have e1216 : Same H12 H16 := (e13.trans e14).trans (e15'.trans e16)
  have hln2 : ss1.length ≤ 1 := by omega
  refine q _ ⟨f, g, ss2, ss1, wsh⟩ H16 (s12.trans e1216) ⟨f1, f2, g1, g2, hln, hnd, by show ss2.length ≤ 3; omega, by show ss1.length ≤ 3; omega, by show 1 ≤ wsh.length; omega, by show wsh.length ≤ 5; omega, ?_, ?_, ?_, ?_⟩ ?_
  · intro x hx
    have hx : x ∈ ss2 ++ ss1 ++ wsh.map (·.2) := hx
    have : SayOk (f ++ g) x := by
      rcases List.mem_append.mp hx with hx | hx
      · rcases List.mem_append.mp hx with hx | hx
        · exact (hok12 x hx).1
        · exact hok10 x hx
      · obtain ⟨p, hp, rfl⟩ := List.mem_map.mp hx
        exact (hok8 p hp).2.2
    exact ⟨this.1, Nat.le_trans this.2 (by decide)⟩
  · exact fun p hp => ⟨(hok8 p hp).1, (hok8 p hp).2.1⟩
  · exact fun x hx => (hok12 x hx).2
  · have h := pieces_pc (ss2 ++ ss1 ++ wsh.map (·.2)) []
    rw [pcs_app, pcs_app] at h
    have h0 : ([] : List Say).length = 0 := rfl
    show ((ss2 ++ ss1 ++ wsh.map (·.2)).foldl (fun ms s => s.gather ms) []).length ≤ 4
    omega
  · refine .tup (SqT.of hp4) (.cons (.tup (sqt_same e1216 hfo12) TDs.strs) (.cons (.tup (sqt_same e1216 hfr12) TDs.strs) (.three ?_ ?_ ?_)))
    · exact .tup (SqT.of ((e14.trans (e15'.trans e16)) _ _ hp1)) (tds_same e1216 hud2)
    · exact .tup (SqT.of ((e15'.trans e16) _ _ hp2)) (tds_same e1216 hud12)
    · exact .tup (SqT.of (e16 _ _ hp3)) (tds_same e1216 hwd12)
end
/-! ### the machine drawn -/
section
variable {P : Program} {w : World} {K : PySem.W.Frag} {mg : Str → Option Value} {base : Heap}
theorem l_rngI {i : Int} {n : Nat} {Q : Int → Prop} (e : i = (n : Nat)) (q : ∃ j : Int, [V.int (n : Nat)] = [.int j] ∧ -(2 ^ 62) ≤ j ∧ j < 2 ^ 62 ∧ Q j) : ∃ j : Int, [V.int i] = [.int j] ∧ -(2 ^ 62) ≤ j ∧ j < 2 ^ 62 ∧ Q j := by rw [e]; exact q
def spLMach (K : PySem.W.Frag) : Sp := fun vs H Q _ => ∃ (s : Addr) (ns : List Int) (i : Nat) (b : Book), vs = [.ref s, .int (i : Nat), .int (b.foe.length : Nat), .int (b.fr.length : Nat), .int 5] ∧ SqL K H s (ns.map V.int) ∧ ns.length ≤ 1000 ∧ i ≤ 1000 ∧ b.Ok ∧
  ∀ r (M : Mach) H', Same H H' → MOk b M → M.length ≤ 5 → TD K H' r (encMach M) → Q r H'
def RowOk (b : Book) (n : Nat) (row : List (List Bool × Nat)) : Prop := ∀ p ∈ row, p.1.length = b.fr.length ∧ p.2 < n
theorem sc_law_machine : FnScope ["_law_script", "_law_at", "_law_foe", "_law_friend", "_law_most", "_law_many", "_law_some", "_law_stands", "_law_k", "_law_row", "_law_j", "_law_cell"] ["_law_script", "_law_at", "_law_foe", "_law_friend", "_law_most"] (defScope s_law_machine) := ⟨rfl, rfl, rfl, by decide +kernel, rfl, by decide +kernel, by decide +kernel⟩
theorem ok_lmachine (D : Hd K mg) : OkG P w K mg base "_law_machine" ["_law_script", "_law_at", "_law_foe", "_law_friend", "_law_most"] 8 (spLMach K) := by
  have G_law_mixed := ok_mixed (P := P) (w := w) (base := base) D
  have G_law_settings := ok_law_settings (P := P) (w := w) (base := base) D
  obtain ⟨fd, F⟩ := F_law_machine D
  refine ⟨g_law_machine D, F.kp, fd, F.ok sc_law_machine (fun vs H Q E h => ?_) (fun cdv A outer sS H vs Q E hr h => ?_), F.bindsN fun _ _ _ _ _ _ us hl => match us, hl with | [_, _, _, _, _], _ => rfl⟩
  · obtain ⟨s, ns, i, b, rfl, _⟩ := h
    rfl
  obtain ⟨s, ns, i, b, rfl, hs, hz, hi, hb, q⟩ := h
  have f2 := hb.foe2
  have g2 := hb.fr2
  refine ⟨_, (PSs.nox (pss_cons (ps_set (i := 5) sc_law_machine.nd rfl (Or.inl rfl) (pe_op op_add pe_int (pe_cl G_law_mixed hr (pa_cons (pv 0) (pa_cons (pv 1) (pa_cons (pv 4) pa_nil))))))
      (pss_cons (ps_set (i := 6) sc_law_machine.nd rfl (Or.inl rfl) (pe_cl G_law_settings hr (pa_cons (pv 3) pa_nil)))
      (pss_cons (ps_set (i := 7) sc_law_machine.nd rfl (Or.inl rfl) (pe_lst pa_nil))
      (pss_cons (ps_for PassesOwn.never rfl (pi_range1 (by rfl) (g_range D) (pa_cons (pv 5) pa_nil)) (pg_name (i := 8) sc_law_machine.nd rfl (Or.inl rfl)) (pss_cons (ps_set (i := 9) sc_law_machine.nd rfl (Or.inl rfl) (pe_lst pa_nil))
      (pss_cons (ps_for PassesOwn.never rfl (pi_range1 (by rfl) (g_range D) (pa_cons (pe_callB (cl_lenK K) (by rfl) (g_len D) (by decide +kernel) (pa_cons (pe_cl G_law_settings hr (pa_cons (pv 2) pa_nil)) pa_nil)) pa_nil)) (pg_name (i := 10) sc_law_machine.nd rfl (Or.inl rfl)) (pss_cons (ps_set (i := 11) sc_law_machine.nd rfl (Or.inl rfl) (pe_cl G_law_mixed hr (pa_cons (pv 0) (pa_cons (pe_op op_add (pe_op op_add (pe_op op_add (pv 1) pe_int) (pe_op op_mul pe_int (pv 8))) (pv 10)) (pa_cons (pe_op op_mul pe_int (pv 5)) pa_nil)))))
      (pss_one (ps_expr (pe_bmK K PySem.F.plainAttrs_list PySem.F.slot_list_append PySem.F.type_list_append mt_append (pv 9) (pa_cons (pe_tup (pa_cons (pe_ix (ix_listK K) (pv 6) (pe_op op_mod (pe_op op_mod (pv 11) pe_int) (pe_callB (cl_lenK K) (by rfl) (g_len D) (by decide +kernel) (pa_cons (pv 6) pa_nil))) (fun _ _ => rfl)) (pa_cons (pe_op op_fdiv (pv 11) pe_int) pa_nil))) pa_nil))))))
      (pss_one (ps_expr (pe_bmK K PySem.F.plainAttrs_list PySem.F.slot_list_append PySem.F.type_list_append mt_append (pv 7) (pa_cons (pe_callTy (cl_tupK K) (by rfl) (g_tuple D) (by decide +kernel) (pa_cons (pv 9) pa_nil)) pa_nil)))))))
      (pss_one (ps_ret (pe_callTy (cl_tupK K) (by rfl) (g_tuple D) (by decide +kernel) (pa_cons (pv 7) pa_nil))))))))), ?_⟩
  walk_at "ga"
  refine ⟨s, ns, i, 5, rfl, hs, hz, by omega, by decide, fun many0 H1 hmany e1 => ?_⟩
  walk_at "ga"
  rw [show (1 : Int) + (many0 : Nat) = ((many0 + 1 : Nat) : Int) by omega]
  generalize hmn : many0 + 1 = many
  have hm1 : 1 ≤ many ∧ many ≤ 5 := by omega
  refine ⟨b.fr.length, rfl, by omega, fun so ws H2 e2 hso0 hso hwd => ?_⟩
  have hwl : ws.length = 2 ^ b.fr.length := by rw [hwd.length, List.length_map, settings_len]
  have hwp : 0 < ws.length := by rw [hwl]; exact Nat.two_pow_pos _
  walk_at "ga"
  refine l_mkL0 fun st H3 e3 hst0 hst => ?_
  have e03 : Same H H3 := (e1.trans e2).trans e3
  have zst : H st = none := (e1.trans e2).free hst0
  walk_at "ga"
  refine forR (fun k σ' H' => ∃ (z8 z9 z10 z11 : Option V) (us : List V) (M : Mach), σ' = [some (.ref s), some (.int (i : Nat)), some (.int (b.foe.length : Nat)), some (.int (b.fr.length : Nat)), some (.int 5), some (.int (many : Nat)), some (.ref so), some (.ref st), z8, z9, z10, z11] ∧
      SameBut st H3 H' ∧ H' st = some (.lst us) ∧ TDs K H' us (M.map encStand) ∧ M.length = k ∧ ∀ row ∈ M, row.length = 2 ^ b.foe.length ∧ RowOk b many row)
    (by omega) ⟨_, _, _, _, [], [], rfl, SameBut.refl st H3, hst, .nil, rfl, fun r hr => nomatch hr⟩ (fun k σ' H' hk h => ?_) (fun σ' H' h => ?_)
  · obtain ⟨z8, z9, z10, z11, us, M, rfl, x, hus, hud, hMl, hMo⟩ := h
    have s4 : Same H H' := x.same e03 zst
    walk_at "ga"
    refine l_mkL0 fun ro H5 e5 hro0 hro => ?_
    have s5 := s4.trans e5
    walk_at "ga"
    refine ⟨b.foe.length, rfl, by omega, fun l6 w6 H6 e6 hl60 hl6 hw6 => ?_⟩
    walk_at "ga"
    have hw6l : w6.length = 2 ^ b.foe.length := by rw [hw6.length, List.length_map, settings_len]
    have hfp : 2 ^ b.foe.length ≤ 4 := Nat.pow_le_pow_right (n := 2) (by decide) f2
    have hro6 := e6 _ _ hro
    have s6 := s5.trans e6
    have zro : H ro = none := s4.free hro0
    have nrs : ro ≠ st := (ne_of_none hus hro0).symm
    have hso6 : H6 so = some (.lst ws) := (e5.trans e6) _ _ (x _ _ (ne_of_none hso hst0) (e3 _ _ hso))
    have nro : so ≠ ro := fun z => by rw [z, e6 _ _ hro] at hso6; rw [z] at hso; have := x _ _ nrs (e3 _ _ hso); rw [hro0] at this; cases this
    have hwd6 : TDs K H6 ws ((settings b.fr.length).map encB) := tds_same (e5.trans e6) ((tds_same e3 hwd).mono (x.tup hst))
    rw [hw6l]
    refine forR (fun j σ' H' => ∃ (z10 z11 : Option V) (vs : List V) (row : List (List Bool × Nat)), σ' = [some (.ref s), some (.int (i : Nat)), some (.int (b.foe.length : Nat)), some (.int (b.fr.length : Nat)), some (.int 5), some (.int (many : Nat)), some (.ref so), some (.ref st), some (.int (k : Nat)), some (.ref ro), z10, z11] ∧
        SameBut ro H6 H' ∧ H' ro = some (.lst vs) ∧ TDs K H' vs (row.map encPair) ∧ row.length = j ∧ RowOk b many row)
      (by omega) ⟨_, _, [], [], rfl, SameBut.refl ro H6, hro6, .nil, rfl, fun r hr => nomatch hr⟩ (fun j σ' H7 hj h => ?_) (fun σ' H7 h => ?_)
    · obtain ⟨z10, z11, vs, row, rfl, x7, hvs, hvd, hrl, hrok⟩ := h
      have s7 : Same H H7 := x7.same s6 zro
      walk_at "ga"
      refine l_I (.inl ⟨by decide, by decide⟩) ?_
      walk_at "ga"
      refine l_I (.inl ⟨by decide, by decide⟩) ?_
      walk_at "ga"
      rw [show (i : Int) + 1 + 4 * (k : Nat) + (j : Nat) = ((i + 1 + 4 * k + j : Nat) : Int) by omega, show (4 : Int) * (many : Nat) = ((4 * many : Nat) : Int) by omega]
      refine ⟨s, ns, i + 1 + 4 * k + j, 4 * many, rfl, s7.seq hs, hz, by omega, by omega, fun cell H8 hcell e8 => ?_⟩
      have hvs8 := e8 _ _ hvs
      walk_at "ga"
      refine ⟨tyv_list (SqL.of hvs8), ?_⟩
      walk_at "ga"
      refine l_I (by decide) ?_
      have hso8 : H8 so = some (.lst ws) := e8 _ _ (x7 _ _ nro hso6)
      walk_at "ga"
      refine l_I (by show (0 : Int) < (ws.length : Nat); omega) ?_
      have hix : (cell : Int) % 4 % (ws.length : Nat) = ((cell % 4 % ws.length : Nat) : Int) := by
        rw [show (cell : Int) % 4 = ((cell % 4 : Nat) : Int) by omega]
        exact (Int.natCast_emod _ _).symm
      rw [hix]
      have hlt : cell % 4 % ws.length < ws.length := Nat.mod_lt _ hwp
      obtain ⟨dd, hd1, hd2⟩ := (tds_same e8 (hwd6.mono (x7.tup hro6))).at (List.getElem?_eq_getElem hlt)
      rw [List.getElem?_map] at hd1
      obtain ⟨se, hse, rfl⟩ := Option.map_eq_some_iff.mp hd1
      refine l_ixL (SqL.of hso8) (atI_nat (List.getElem?_eq_getElem hlt)) ?_
      walk_at "ga"
      refine l_I ⟨by decide, by decide⟩ ?_
      rw [show (cell : Int) / 4 = ((cell / 4 : Nat) : Int) by omega]
      walk_at "ga"
      refine l_mkT (by show 2 ≤ sizeLine; decide) fun p H9 e9 hp0 hp => ?_
      walk_at "ga"
      have hvl : vs.length ≤ 10 := by rw [hvd.length, List.length_map]; omega
      have hvs9 := e9 _ _ hvs8
      refine l_appN hvs9 (szl (by omega)) fun H10 e10 hm10 => ?_
      have t10 : TupX K H9 H10 := e10.tup hvs9
      refine ⟨_, _, _, row ++ [(se, cell / 4)], rfl, x7.trans ((SameBut.of_same (e8.trans e9)).trans e10), hm10, ?_, by rw [List.length_append, hrl]; rfl, fun p hp => ?_⟩
      · rw [List.map_append]
        exact TDs.append ((tds_same (e8.trans e9) hvd).mono t10) (.one (.tup (t10 _ _ (SqT.of hp)) (.two ((td_same e9 hd2).mono t10) (.int _))))
      · rcases List.mem_append.mp hp with hp | hp
        · exact hrok p hp
        · rw [List.mem_singleton.mp hp]
          exact ⟨settings_mem_len (List.mem_of_getElem? hse), by show cell / 4 < many; omega⟩
    · obtain ⟨z10, z11, vs, row, rfl, x7, hvs, hvd, hrl, hrok⟩ := h
      have hus7 : H7 st = some (.lst us) := x7 _ _ nrs.symm ((e5.trans e6) _ _ hus)
      walk_at "ga"
      refine ⟨tyv_list (SqL.of hus7), ?_⟩
      walk_at "ga"
      refine l_tupL (SqL.of hvs) fun p8 hp80 => ?_
      have e8 : Same H7 (upd H7 p8 (.tup vs)) := same_new hp80
      have hp8 : upd H7 p8 (.tup vs) p8 = some (.tup vs) := upd_same
      revert e8 hp8
      generalize upd H7 p8 (.tup vs) = H8
      intro e8 hp8
      walk_at "ga"
      have hus8 := e8 _ _ hus7
      have hul : us.length ≤ 5 := by rw [hud.length, List.length_map]; omega
      refine l_appN hus8 (szl (by omega)) fun H9 e9 hm9 => ?_
      have t9 : TupX K H8 H9 := e9.tup hus8
      have t78 : TupX K H' H8 := (TupX.same (e5.trans e6)).trans ((x7.tup hro6).trans (TupX.same e8))
      have x48 : Same H' H8 := (x7.same (e5.trans e6) hro0).trans e8
      refine ⟨_, _, _, _, _, M ++ [row], rfl, x.trans ((SameBut.of_same x48).trans e9), hm9, ?_, by rw [List.length_append, hMl]; rfl, fun r hr => ?_⟩
      · rw [List.map_append]
        exact TDs.append ((hud.mono t78).mono t9) (.one (.tup (t9 _ _ (SqT.of hp8)) ((tds_same e8 hvd).mono t9)))
      · rcases List.mem_append.mp hr with hr | hr
        · exact hMo r hr
        · rw [List.mem_singleton.mp hr]
          exact ⟨hrl, hrok⟩
  · obtain ⟨z8, z9, z10, z11, us, M, rfl, x, hus, hud, hMl, hMo⟩ := h
    walk_at "ga"
    refine l_tupL (SqL.of hus) fun p8 hp80 => ?_
    have e8 : Same H' (upd H' p8 (.tup us)) := same_new hp80
    refine q _ M _ ((x.same e03 zst).trans e8) ⟨by omega, by omega, fun r hr => (hMo r hr).1, fun r hr => ?_⟩ (by omega) (.tup (SqT.of upd_same) (tds_same e8 hud))
    rw [hMl]
    exact (hMo r hr).2
end
/-! ### each pair's play goes along labelled edges -/
def Lab (G : Gr) (S : List Play) (s : Sr) : Prop := ∀ i, 0 < i → i < s.pairs.length → ∃ (j idx : Nat) (st : List Bool) (p : Play) (l : Int), j < i ∧ s.plays[j]? = some p ∧ s.plays[i]? = some (p ++ [st]) ∧ (Gr.at G j)[idx]? = some (l, i) ∧ (S.getD j [])[idx]? = some st
theorem at_app {G : Gr} {es : List (Int × Nat)} {j : Nat} : Gr.at (G ++ [es]) j = if j < G.length then Gr.at G j else if j = G.length then es else [] := by
  unfold Gr.at
  rw [List.getD_eq_getElem?_getD, List.getD_eq_getElem?_getD]
  by_cases h : j < G.length
  · rw [if_pos h, List.getElem?_append_left h]
  · rw [if_neg h, List.getElem?_append_right (by omega)]
    by_cases e : j = G.length
    · rw [if_pos e, e, Nat.sub_self]; rfl
    · rw [if_neg e, List.getElem?_eq_none (by show 1 ≤ _; omega)]; rfl
theorem getD_app {S : List Play} {es : Play} {j : Nat} : (S ++ [es]).getD j [] = if j < S.length then S.getD j [] else if j = S.length then es else [] := by
  rw [List.getD_eq_getElem?_getD, List.getD_eq_getElem?_getD]
  by_cases h : j < S.length
  · rw [if_pos h, List.getElem?_append_left h]
  · rw [if_neg h, List.getElem?_append_right (by omega)]
    by_cases e : j = S.length
    · rw [if_pos e, e, Nat.sub_self]; rfl
    · rw [if_neg e, List.getElem?_eq_none (by show 1 ≤ _; omega)]; rfl
/-- the last row may grow -/
theorem Lab.grow {G : Gr} {S : List Play} {s : Sr} {es : List (Int × Nat)} {ss : Play} {e : Int × Nat} {st : List Bool} (hS : S.length = G.length) (h : Lab (G ++ [es]) (S ++ [ss]) s) : Lab (G ++ [es ++ [e]]) (S ++ [ss ++ [st]]) s := by
  intro i h0 hi
  obtain ⟨j, idx, st', p, l, g1, g2, g3, g4, g5⟩ := h i h0 hi
  refine ⟨j, idx, st', p, l, g1, g2, g3, ?_, ?_⟩
  · rw [at_app] at g4 ⊢
    by_cases q : j < G.length
    · rw [if_pos q] at g4 ⊢; exact g4
    · rw [if_neg q] at g4 ⊢
      by_cases q2 : j = G.length
      · rw [if_pos q2] at g4 ⊢
        rw [List.getElem?_append_left (List.getElem?_eq_some_iff.mp g4).1]
        exact g4
      · rw [if_neg q2] at g4; cases g4
  · rw [getD_app] at g5 ⊢
    by_cases q : j < S.length
    · rw [if_pos q] at g5 ⊢; exact g5
    · rw [if_neg q] at g5 ⊢
      by_cases q2 : j = S.length
      · rw [if_pos q2] at g5 ⊢
        rw [List.getElem?_append_left (List.getElem?_eq_some_iff.mp g5).1]
        exact g5
      · rw [if_neg q2] at g5; cases g5
theorem Lab.open {G : Gr} {S : List Play} {s : Sr} (hS : S.length = G.length) (h : Lab G S s) : Lab (G ++ [[]]) (S ++ [[]]) s := by
  intro i h0 hi
  obtain ⟨j, idx, st', p, l, g1, g2, g3, g4, g5⟩ := h i h0 hi
  have hj : j < G.length := Gr.at_mem (List.mem_of_getElem? g4)
  refine ⟨j, idx, st', p, l, g1, g2, g3, ?_, ?_⟩
  · rw [at_app, if_pos hj]; exact g4
  · rw [getD_app, if_pos (by omega)]; exact g5
theorem ixOf_new {α : Type} [DecidableEq α] {y : α} : ∀ {R : List α}, y ∉ R → ixOf y (R ++ [y]) = R.length
  | [], _ => by show (if y = y then 0 else _) = _; rw [if_pos rfl]; rfl
  | z :: R, hz => by
    show (if z = y then 0 else ixOf y (R ++ [y]) + 1) = _
    rw [if_neg (fun q => hz (by rw [q]; simp)), ixOf_new (R := R) (fun q => hz (List.mem_cons_of_mem _ q))]
    rfl
theorem Lab.step {b : Book} {M : Mach} {G : Gr} {S : List Play} {mv : MvN} {acc acc' : Acc} (hs : SrOk b M acc.1) (hS : S.length = G.length) (hu : G.length < acc.1.pairs.length) (hl : acc.2.1.length = acc.2.2.length)
    (h : Lab (G ++ [acc.2.1]) (S ++ [acc.2.2]) acc.1) (e : srStep b M G.length mv acc = some acc') : Lab (G ++ [acc'.2.1]) (S ++ [acc'.2.2]) acc'.1 ∧ acc'.2.1.length = acc'.2.2.length := by
  unfold srStep at e
  cases hf : mv.2.find? fun a => decide (a.1 = (friendOf b M acc.1 G.length mv.1).1) with
  | none => rw [hf] at e; cases e
  | some a =>
    rw [hf] at e
    cases e
    generalize hp : ((friendOf b M acc.1 G.length mv.1).2, a.2.2) = p
    generalize hst : mv.1 ++ (friendOf b M acc.1 G.length mv.1).1 = st
    refine ⟨?_, by rw [List.length_append, List.length_append, hl]; rfl⟩
    show Lab (G ++ [acc.2.1 ++ [(a.2.1, ixOf p (acc.1.add G.length p st).pairs)]]) (S ++ [acc.2.2 ++ [st]]) (acc.1.add G.length p st)
    have hg := h.grow (e := (a.2.1, ixOf p (acc.1.add G.length p st).pairs)) (st := st) hS
    by_cases hin : p ∈ acc.1.pairs
    · have ea : acc.1.add G.length p st = acc.1 := by unfold Sr.add; rw [if_pos hin]
      rw [ea] at hg ⊢
      exact hg
    · have ea : acc.1.add G.length p st = ⟨acc.1.pairs ++ [p], acc.1.plays ++ [acc.1.plays.getD G.length [] ++ [st]], acc.1.ahead ++ [some (G.length, st)]⟩ := by unfold Sr.add; rw [if_neg hin]
      rw [ea] at hg ⊢
      simp only at hg ⊢
      rw [ixOf_new hin] at hg ⊢
      have l1 := hs.l1
      intro i h0 hi
      have hi : i < acc.1.pairs.length + 1 := by
        have : (acc.1.pairs ++ [p]).length = acc.1.pairs.length + 1 := by rw [List.length_append]; rfl
        rw [← this]; exact hi
      by_cases hio : i < acc.1.pairs.length
      · obtain ⟨j, idx, st', q, l, g1, g2, g3, g4, g5⟩ := hg i h0 hio
        refine ⟨j, idx, st', q, l, g1, ?_, ?_, g4, g5⟩
        · show (acc.1.plays ++ _)[j]? = _
          rw [List.getElem?_append_left (by omega)]; exact g2
        · show (acc.1.plays ++ _)[i]? = _
          rw [List.getElem?_append_left (by omega)]; exact g3
      · have ei : i = acc.1.pairs.length := by omega
        subst ei
        refine ⟨G.length, acc.2.1.length, st, acc.1.plays.getD G.length [], a.2.1, hu, ?_, ?_, ?_, ?_⟩
        · show (acc.1.plays ++ _)[G.length]? = _
          rw [List.getElem?_append_left (by omega), List.getD_eq_getElem?_getD, List.getElem?_eq_getElem (by omega), Option.getD_some]
        · show (acc.1.plays ++ _)[acc.1.pairs.length]? = _
          rw [List.getElem?_append_right (by omega), l1, Nat.sub_self]; rfl
        · rw [at_app, if_neg (Nat.lt_irrefl _), if_pos rfl, List.getElem?_append_right (Nat.le_refl _), Nat.sub_self]
          rfl
        · rw [getD_app, if_neg (by omega), if_pos hS.symm, hl, List.getElem?_append_right (Nat.le_refl _), Nat.sub_self]
          rfl
theorem Lab.fold {b : Book} {M : Mach} (hM : MOk b M) {G : Gr} {S : List Play} {p : Nat × Nat} (hS : S.length = G.length) : ∀ (mvs : List MvN) (acc acc' : Acc), SrOk b M acc.1 → acc.1.pairs[G.length]? = some p → (∀ mv ∈ mvs, mv.1.length = b.foe.length ∧ ∀ a ∈ mv.2, a.1.length = b.fr.length ∧ a.2.2 < (rowM b).length) →
    acc.2.1.length = acc.2.2.length → Lab (G ++ [acc.2.1]) (S ++ [acc.2.2]) acc.1 → srFold b M G.length mvs acc = .inr acc' → Lab (G ++ [acc'.2.1]) (S ++ [acc'.2.2]) acc'.1
  | [], acc, acc', hs, hp, hm, hl, h, e => by
    rw [srFold_nil] at e
    cases e
    exact h
  | mv :: r, acc, acc', hs, hp, hm, hl, h, e => by
    cases q : srStep b M G.length mv acc with
    | none => rw [srFold_none q] at e; cases e
    | some a1 =>
      rw [srFold_some q] at e
      obtain ⟨g1, g2, _⟩ := srStep_ok hM hs hp (hm mv (by simp)).1 (hm mv (by simp)).2 q
      obtain ⟨f1, f2⟩ := h.step hs hS (List.getElem?_eq_some_iff.mp hp).1 hl q
      exact Lab.fold hM hS r a1 acc' g1 g2 (fun m hm2 => hm m (List.mem_cons_of_mem _ hm2)) f2 f1 e
theorem Lab.run {b : Book} {M : Mach} (hb : b.Ok) (hM : MOk b M) : ∀ (f : Nat) (r r' : Res), ResOk b M r → Lab r.2.1 r.2.2 r.1 → srRun b M f r = .inr r' → Lab r'.2.1 r'.2.2 r'.1
  | 0, r, r', h, hl, e => by
    cases e
    exact hl
  | f + 1, r, r', h, hl, e => by
    by_cases hlt : r.2.1.length < r.1.pairs.length
    · cases q : srFold b M r.2.1.length (movesN b (r.1.pairs.getD r.2.1.length (0, 0)).2) (r.1, [], []) with
      | inl p => rw [srRun_brk hlt q] at e; cases e
      | inr acc =>
        rw [srRun_go hlt q] at e
        refine Lab.run hb hM f _ r' (h.step hb hM hlt q) ?_ e
        have hp : r.1.pairs[r.2.1.length]? = some (r.1.pairs.getD r.2.1.length (0, 0)) := by
          rw [List.getD_eq_getElem?_getD, List.getElem?_eq_getElem hlt, Option.getD_some]
        have hpm := h.sr.rng _ (List.mem_of_getElem? hp)
        exact Lab.fold hM h.ls _ _ _ h.sr hp (fun mv hmv => movesN_ok hb hpm.2 hmv) rfl (hl.open h.ls) q
    · rw [srRun_end (by omega)] at e
      cases e
      exact hl
theorem srRes_lab {b : Book} {M : Mach} (hb : b.Ok) (hM : MOk b M) {r : Res} (h : srRes b M = .inr r) : Lab r.2.1 r.2.2 r.1 :=
  Lab.run hb hM 100 _ r (ResOk.init hM) (fun i h0 hi => by have : sr0.pairs.length = 1 := rfl; have hi : i < sr0.pairs.length := hi; omega) h
/-- the labelled way to a pair -/
theorem Lab.rway {G : Gr} {S : List Play} {s : Sr} (h : Lab G S s) (h0 : s.plays[0]? = some []) : ∀ n i, i < n → i < s.pairs.length → ∃ p x, s.plays[i]? = some p ∧ RWay G S 0 p i x := by
  intro n
  induction n with
  | zero => intro i hi; omega
  | succ n ih =>
    intro i hi hil
    by_cases e : i = 0
    · subst e
      exact ⟨[], 0, h0, .nil⟩
    · obtain ⟨j, idx, st, p, l, g1, g2, g3, g4, g5⟩ := h i (by omega) hil
      obtain ⟨p', x, f1, f2⟩ := ih j (by omega) (by omega)
      rw [g2] at f1
      cases f1
      exact ⟨_, _, g3, f2.snoc g4 g5⟩
theorem RWay.way {G : Gr} {S : List Play} {u : Nat} {p : Play} {v : Nat} {x : Int} (h : RWay G S u p v x) : Way G p.length u v x := by
  induction h with
  | nil => exact .nil _
  | snoc _ he _ ih =>
    rw [List.length_append]
    exact ih.snoc (List.mem_of_getElem? he)
/-! ### what judging needs of the graph -/
structure GrOk (s : Sr) (G : Gr) (S : List Play) : Prop where
  ok : G.Ok
  pos : 0 < G.length
  most : G.length ≤ 80
  pl : s.pairs.length = G.length
  sl : S.length = G.length
  bd : G.Bd 1000
  row : ∀ u, u < G.length → (S.getD u []).length = (G.at u).length
  few : ∀ u, (G.at u).length ≤ 100
  play : ∀ v, v < G.length → ∃ p x, s.plays[v]? = some p ∧ RWay G S 0 p v x
theorem movesN_loss {b : Book} (hb : b.Ok) {node : Nat} {mv : MvN} (h : mv ∈ movesN b node) : ∀ a ∈ mv.2, 0 ≤ a.2.1 ∧ a.2.1 ≤ 1000 := by
  unfold movesN at h
  obtain ⟨mv0, hmv0, rfl⟩ := List.mem_map.mp h
  unfold movesM at hmv0
  obtain ⟨foe, hfoe, rfl⟩ := List.mem_map.mp hmv0
  intro a ha
  obtain ⟨e, he, rfl⟩ := List.mem_map.mp ha
  have he2 : e ∈ answersM b ((rowM b).getD node []) foe := he
  unfold answersM at he2
  obtain ⟨fr, hfr, rfl⟩ := List.mem_map.mp he2
  exact lossM_bd hb _ _
theorem GrOk.of {b : Book} {M : Mach} (hb : b.Ok) (hM : MOk b M) (h5 : M.length ≤ 5) {s : Sr} {G : Gr} {S : List Play} (h : srRes b M = .inr (s, G, S)) (hl : s.pairs.length = G.length) : GrOk s G S := by
  have hr := srRes_ok hb hM h
  have hlab := srRes_lab hb hM h
  have hpos : 0 < s.pairs.length := (List.getElem?_eq_some_iff.mp hr.sr.z).1
  have hrow : ∀ u, u < G.length → (S.getD u []).length = (G.at u).length ∧ (G.at u).length ≤ 4 := fun u hu => by
    obtain ⟨p, _, q⟩ := hr.row u hu
    have q1 : (G.at u).length = _ := q.l1
    have q2 : (S.getD u []).length = _ := q.l2
    have := movesN_len hb p.2
    omega
  refine ⟨hr.gok hl, by omega, by rw [← hl]; exact hr.sr.len hb h5, hl, hr.ls, fun es hes e he => ?_, fun u hu => (hrow u hu).1, fun u => ?_, fun v hv => hlab.rway hr.sr.p0 (v + 1) v (by omega) (by show v < s.pairs.length; omega)⟩
  · obtain ⟨u, hu, rfl⟩ := List.mem_iff_getElem.mp hes
    obtain ⟨i, hi, rfl⟩ := List.mem_iff_getElem.mp he
    have q : (G.at u)[i]? = some G[u][i] := by
      have := Gr.at_get (G := G) hu
      rw [List.getElem?_eq_getElem hu] at this
      rw [← Option.some.inj this]
      exact List.getElem?_eq_getElem hi
    obtain ⟨p, mv, st, h1, h2, h3, a, g1, g2, g3, g4⟩ := hr.edge q
    rw [g2]
    exact movesN_loss hb (List.mem_of_getElem? h2) a (find_mem g1).1
  · by_cases hu : u < G.length
    · have := (hrow u hu).2; omega
    · unfold Gr.at
      rw [List.getD_eq_getElem?_getD, List.getElem?_eq_none (by omega)]
      exact Nat.zero_le _
theorem GrOk.reach {s : Sr} {G : Gr} {S : List Play} (h : GrOk s G S) : ∀ v, v < G.length → ∃ k x, Way G k 0 v x := fun v hv => by
  obtain ⟨p, x, _, q⟩ := h.play v hv
  exact ⟨_, _, q.way⟩
/-- a pair without moves, where no way is long -/
theorem GrOk.sink {s : Sr} {G : Gr} {S : List Play} (h : GrOk s G S) (hn : ∀ v x, ¬ Way G G.length 0 v x) : ∃ v, v < G.length ∧ G.at v = [] := by
  refine Classical.byContradiction fun q => ?_
  have all : ∀ k, ∃ v x, v < G.length ∧ Way G k 0 v x := by
    intro k
    induction k with
    | zero => exact ⟨0, 0, h.pos, .nil 0⟩
    | succ k ih =>
      obtain ⟨v, x, hv, hw⟩ := ih
      cases he : G.at v with
      | nil => exact absurd ⟨v, hv, he⟩ q
      | cons e es =>
        have hm : (e.1, e.2) ∈ G.at v := by rw [he]; exact List.mem_cons_self
        exact ⟨e.2, x + e.1, h.ok.to hm, hw.snoc hm⟩
  obtain ⟨v, x, _, hw⟩ := all G.length
  exact hn v x hw
/-- at the mean, heights leave a ring -/
theorem GrOk.ring {s : Sr} {G : Gr} {S : List Play} (h : GrOk s G S) {up down : Int} (hd : 0 < down) (hA : MeanA G G.length up down) (hB : MeanB G G.length up down) (ht : Nat → Int) (hf : Feas G up down ht) :
    ∃ v p, v < G.length ∧ p ≠ [] ∧ LWay (tightT G S up down ht) v p v := by
  obtain ⟨k0, c, y, x0, x, hc, hw0, hw, ha⟩ := zero_ring h.ok h.pos h.bd (by decide) hd hA hB
  obtain ⟨p, hp, hl⟩ := hf.tight (S := S) h.row hw (by omega)
  refine ⟨y, p, hw0.lt h.ok h.pos, fun z => ?_, hl⟩
  rw [z] at hp
  have : ([] : Play).length = 0 := rfl
  omega
/-! ### judged -/
section
variable {P : Program} {w : World} {K : PySem.W.Frag} {mg : Str → Option Value} {base : Heap}
/-- a list of settings -/
def PlAt (K : PySem.W.Frag) (H : Hp) (l : Addr) (p : Play) : Prop := ∃ ws, H l = some (.lst ws) ∧ TDs K H ws (p.map encB)
theorem PlAt.same {H H' : Hp} {l : Addr} {p : Play} (e : Same H H') (h : PlAt K H l p) : PlAt K H' l p := by
  obtain ⟨ws, h1, h2⟩ := h
  exact ⟨ws, e _ _ h1, tds_same e h2⟩
/-- what judging tells of a mean -/
def MeanV (K : PySem.W.Frag) (H : Hp) (v : V) (up down : Int) (head ring : Play) : Prop := ∃ t mt hl rl, v = .ref t ∧ SqT K H t [.str "mean", .ref mt, .ref hl, .ref rl] ∧ TD K H (.ref mt) (.tuple [.int up, .int down]) ∧ PlAt K H hl head ∧ PlAt K H rl ring
theorem MeanV.same {H H' : Hp} {v : V} {up down : Int} {p q : Play} (e : Same H H') (h : MeanV K H v up down p q) : MeanV K H' v up down p q := by
  obtain ⟨t, mt, hl, rl, h0, h1, h2, h3, h4⟩ := h
  exact ⟨t, mt, hl, rl, h0, sqt_same e h1, td_same e h2, h3.same e, h4.same e⟩
theorem encEs_shaped (es : List (Int × Nat)) : SeqAt.shaped (.list (es.map encE)) = true := by
  refine shaped_of ?_ ?_
  · rw [lay_lst]
    refine lay_map fun e _ => ?_
    rw [encE, lay_tup, lay_cons, lay_cons, lay_nil, lay_int, lay_int]
    rfl
  · rw [dep_lst]
    have := dep_map (f := encE) (n := 1) (l := es) fun e _ => by
      rw [encE, dep_tup, dep_cons, dep_cons, dep_nil, dep_int, dep_int]
      decide
    omega
theorem eqv_nil {α : Type} [DecidableEq α] (f : α → PyData) (es : List α) : PyData.eqvAll (es.map f) [] = decide (es = []) := by
  cases es with
  | nil => rw [List.map_nil, eqvA_nil]; rfl
  | cons e es => rw [List.map_cons, eqvA_cn]; rfl
def spJudged (K : PySem.W.Frag) : Sp := fun vs H Q _ => ∃ (v u : V) (b : Book) (M : Mach), vs = [v, u] ∧ TD K H v b.enc ∧ b.Ok ∧ TD K H u (encMach M) ∧ MOk b M ∧ M.length ≤ 5 ∧
  (∀ p, srRes b M = .inl p → ∀ t l H', Same H H' → SqT K H' t [.str "breaks", .ref l] → PlAt K H' l p → Q (.ref t) H') ∧
  (∀ s G S, srRes b M = .inr (s, G, S) → GrOk s G S → (∀ v x, ¬ Way G G.length 0 v x) → ∀ v p r H', v < G.length → G.at v = [] → s.plays[v]? = some p → Same H H' → MeanV K H' r 0 1 p [] → Q r H') ∧
  (∀ s G S, srRes b M = .inr (s, G, S) → GrOk s G S → ∀ up down : Int, 0 < down → down < 1000000 → Int.gcd up down = 1 → MeanA G G.length up down → MeanB G G.length up down → ∀ h v p q r H', Feas G up down h → v < G.length → q ≠ [] → q.length ≤ 1000 →
    LWay (tightT G S up down h) v q v → s.plays[v]? = some p → Same H H' → MeanV K H' r up down p q → Q r H')
theorem sc_judged : FnScope ["book", "machine", "judge", "play", "found", "ends", "at", "first", "settings"] ["book", "machine"] (defScope s_judged) := ⟨rfl, rfl, rfl, by decide +kernel, rfl, by decide +kernel, by decide +kernel⟩
theorem ok_judged (D : Hd K mg) : OkG P w K mg base "judged" ["book", "machine"] 23 (spJudged K) := by
  have G_checked_machine := ok_checked_machine (P := P) (w := w) (base := base) D
  have G_Judge_init := ok_Judge_init (P := P) (w := w) (base := base) D
  have G_Judge_grow := ok_Judge_grow (P := P) (w := w) (base := base) D
  have G_Judge_ring := ok_Judge_ring (P := P) (w := w) (base := base) D
  have G_Judge_way := ok_Judge_way (P := P) (w := w) (base := base) D
  have G_worst_of := ok_worst_of (P := P) (w := w) (base := base) D
  obtain ⟨fd, F⟩ := F_judged D
  refine ⟨g_judged D, F.kp, fd, F.ok sc_judged (fun vs H Q E h => ?_) (fun cdv A outer sS H vs Q E hr h => ?_), F.bindsN fun _ _ _ _ _ _ us hl => match us, hl with | [_, _], _ => rfl⟩
  · obtain ⟨v, u, b, M, rfl, _⟩ := h
    rfl
  obtain ⟨v, u, b, M, rfl, hv, hb, hu, hM, h5, kb, kn, kr⟩ := h
  refine ⟨_, (PSs.nox (pss_cons (ps_expr (pe_cl G_checked_machine hr (pa_cons (pv 0) (pa_cons (pv 1) pa_nil))))
      (pss_cons (ps_set (i := 2) sc_judged.nd rfl (Or.inr rfl) (pe_mkK K G_Judge_init hr (pa_cons (pv 0) (pa_cons (pv 1) pa_nil))))
      (pss_cons (ps_set (i := 3) sc_judged.nd rfl (Or.inl rfl) (pe_mt0K K (pv 2) G_Judge_grow hr))
      (pss_cons (ps_if (pt_cmpR op_isnt0 (pv 3) pe_non (nomark _)) (pss_one (ps_ret (pe_tup (pa_cons pe_str (pa_cons (pv 3) pa_nil))))) pss_nil)
      (pss_cons (ps_set (i := 4) sc_judged.nd rfl (Or.inl rfl) (pe_cl G_worst_of hr (pa_cons (pe_fldK K (pv 2)) pa_nil)))
      (pss_cons (ps_if (pt_cmpR op_is0 (pv 4) pe_non (nomark _)) (pss_cons (ps_setLc (i := 5) (own := [("at", 6)]) (g := gName 6) (by rfl) sc_judged.nd rfl rfl (sw_true rfl rfl rfl (by decide +kernel)) (pi_range1 (by rfl) (g_range D) (pa_cons (pe_callB (cl_lenK K) (by rfl) (g_len D) (by decide +kernel) (pa_cons (pe_fldK K (pv 2)) pa_nil)) pa_nil)) (blkOk_by (N := ["book", "machine", "judge", "play", "found", "ends", "at", "first", "settings"]) (sc := defScope s_judged) (by decide +kernel)) (fun _ _ _ _ _ => (pg_name (i := 6) sc_judged.nd rfl (Or.inl rfl))) (fun _ _ _ _ _ => (pts_one (pt_cmpR (op_eqDK K (hu64 hr)) (pe_ix (ix_listK K) (pe_fldK K (pv 2)) (pv 6) (fun _ _ => rfl)) (pe_lst pa_nil) (nomark _)))) (fun _ _ _ _ _ => (pv 6)))
      (pss_one (ps_ret (pe_tup (pa_cons pe_str (pa_cons (pe_tup (pa_cons pe_int (pa_cons pe_int pa_nil))) (pa_cons (pe_mtK K (pv 2) G_Judge_way hr (pa_cons (pe_ix (ix_listK K) (pv 5) pe_int (fun _ _ => rfl)) pa_nil)) (pa_cons (pe_lst pa_nil) pa_nil)))))))) pss_nil)
      (pss_cons (ps_asg (pe_mtK K (pv 2) G_Judge_ring hr (pa_cons (pe_ix (ix_tupK K) (pv 4) pe_int (fun _ _ => rfl)) (pa_cons (pe_ix (ix_tupK K) (pv 4) pe_int (fun _ _ => rfl)) pa_nil))) (pg_tupK K (n := 2) rfl (pgs_cons (pg_name (i := 7) sc_judged.nd rfl (Or.inl rfl)) (pgs_cons (pg_name (i := 8) sc_judged.nd rfl (Or.inl rfl)) pgs_nil))))
      (pss_one (ps_ret (pe_tup (pa_cons pe_str (pa_cons (pv 4) (pa_cons (pe_mtK K (pv 2) G_Judge_way hr (pa_cons (pv 7) pa_nil)) (pa_cons (pv 8) pa_nil))))))))))))))), ?_⟩
  walk_at "ga"
  refine ⟨v, u, b, M, rfl, hv, hb, hu, hM, fun H1 e1 => ?_⟩
  walk_at "ga"
  refine l_make ?_
  walk_at "ga"
  intro a dx ha0 hdx0 hne
  have e0 : Same H (upd (upd H1 dx (.own a)) a (.ins (He.ga K "Judge") dx [])) := e1.trans (same_mut (same_new hdx0) ha0)
  have za : H a = none := e1.free ha0
  refine ⟨a, dx, v, u, b, M, rfl, upd_same, td_same e0 hv, hb, td_same e0 hu, fun J H2 e2 hJ0 hJ => ⟨rfl, ?_⟩⟩
  have e02 : Same H H2 := e2.same e0 za
  have zS : ∀ l ∈ J.S, H l = none := fun l hl => e0.free (hJ0 l hl)
  clear e0
  walk_at "ga"
  refine l_meth ?_
  walk_at "ga"
  refine l_Jm hJ.fx.obj (by rfl) ?_
  walk_at "ga"
  refine ⟨a, J, b, M, rfl, hJ, hb, hM, h5, fun p hp l ws H3 e3 hl hw => ?_, fun r hres hsr hlen hls H3 e3 hJ3 => ?_⟩
  · have e03 : Same H H3 := SameEx.same zS ((SameEx.of_same e02).trans e3)
    walk_at "ga"
    refine l_mkT (by show 2 ≤ sizeLine; decide) fun t H4 e4 ht0 ht => ?_
    exact kb p hp t l H4 (e03.trans e4) (SqT.of ht) ⟨ws, e4 _ _ hl, tds_same e4 hw⟩
  obtain ⟨s, G, S⟩ := r
  simp only at hsr hlen hls
  have hG := GrOk.of hb hM h5 hres hlen
  have e03 : Same H H3 := SameEx.same zS ((SameEx.of_same e02).trans e3)
  walk_at "ga"
  refine l_fldA ?_
  walk_at "ga"
  refine l_Jgraph D hJ3.fx.obj ?_
  walk_at "ga"
  refine ⟨J.gl, G, rfl, hJ3.gr.at, hG.ok, hG.pos, by have := hG.most; omega, hG.reach, fun v x hw => hw.shorter hG.ok hG.pos, fun hno H4 e4 => ?_, fun up down hd0 hd1 hg1 hA hB r H4 e4 htd => ?_⟩
  · have e04 := e03.trans e4
    have hJ4 := hJ3.same e4
    obtain ⟨wp, hpl1, hpd⟩ := hJ4.pr.pr
    have hwp : wp.length = G.length := by rw [hpd.length, List.length_map]; exact hlen
    have hpos := hG.pos
    have hmost := hG.most
    walk_at "ga"
    refine l_fldA ?_
    walk_at "ga"
    refine l_Jpairs D hJ4.fx.obj ?_
    walk_at "ga"
    rw [hwp]
    refine lcR (fun i => vNats ((List.range i).filter fun v => decide (G.at v = []))) rfl (by omega) (fun Dd i H5 hD hi e5 hm5 => ?_) (fun l H5 hl e5 hm5 => ?_)
    · walk_at "go"
      refine ⟨rfl, ?_⟩
      have hJ5 := hJ4.same e5
      obtain ⟨gs, ae, us, p1, p2, p3, p4⟩ := hJ5.gr.at.row hi
      have hst : (List.range (i + 1)).filter (fun v => decide (G.at v = [])) = (List.range i).filter (fun v => decide (G.at v = [])) ++ (if G.at i = [] then [i] else []) := by
        rw [List.range_succ, List.filter_append, List.filter_cons, List.filter_nil]
        by_cases q : G.at i = []
        · rw [if_pos (decide_eq_true q), if_pos q]
        · rw [if_neg (by rw [decide_eq_false q]; exact Bool.false_ne_true), if_neg q]
      walk_at "ga"
      refine l_fldA ?_
      walk_at "ga"
      refine l_Jgraph D hJ5.fx.obj ?_
      walk_at "ga"
      refine l_ixL (SqL.of p1) (atI_nat p2) ?_
      walk_at "ga"
      refine l_mkL0 fun p H6 e6 hp0 hp => ?_
      refine l_eqD (dpl (SqL.of (e6 _ _ p3)) (tds_same e6 p4)) (dpl (SqL.of hp) TDs.nil) (encEs_shaped _) (by decide +kernel) ?_
      rw [eqv_lst, eqv_nil]
      walk_at "go"
      refine l_i2 (fun hb => ?_) (fun hb => ?_)
      · have hb := of_decide_eq_true hb
        rw [if_pos hb] at hst
        walk_at "ga"
        have hfl := List.length_filter_le (fun v => decide (G.at v = [])) (List.range i)
        rw [List.length_range] at hfl
        refine lc_put (zs := fun i => vNats ((List.range i).filter fun v => decide (G.at v = []))) hD (e5.trans e6) (e6 _ _ hm5) (szl (by show (vNats _).length ≤ _; rw [vNats_len]; omega)) ?_
        show vNats ((List.range (i + 1)).filter _) = vNats _ ++ _
        rw [hst, vNats_snoc]
      · have hb := of_decide_eq_false hb
        rw [if_neg hb, List.append_nil] at hst
        refine lc_skip (zs := fun i => vNats ((List.range i).filter fun v => decide (G.at v = []))) (e5.trans e6) (e6 _ _ hm5) ?_
        show vNats ((List.range (i + 1)).filter _) = vNats _
        rw [hst]
    obtain ⟨v0, hv0, hs0⟩ := hG.sink hno
    have hm5 : H5 l = some (.lst (vNats ((List.range G.length).filter fun v => decide (G.at v = [])))) := hm5
    have hin : v0 ∈ (List.range G.length).filter fun v => decide (G.at v = []) := List.mem_filter.mpr ⟨List.mem_range.mpr hv0, decide_eq_true hs0⟩
    cases hfl : (List.range G.length).filter fun v => decide (G.at v = []) with
    | nil => rw [hfl] at hin; cases hin
    | cons e rest =>
      have he : e ∈ (List.range G.length).filter fun v => decide (G.at v = []) := by rw [hfl]; exact List.mem_cons_self
      obtain ⟨he1, he2⟩ := List.mem_filter.mp he
      have he1 := List.mem_range.mp he1
      have he2 := of_decide_eq_true he2
      rw [hfl] at hm5
      have hm5 : H5 l = some (.lst (.int (e : Nat) :: vNats rest)) := hm5
      have e05 := e04.trans e5
      obtain ⟨p, x, hp1, hp2⟩ := hG.play e he1
      walk_at "ga"
      refine l_mkT (by show 2 ≤ sizeLine; decide) fun mt H6 e6 hmt0 hmt => ?_
      have hJ6 := hJ4.same (e5.trans e6)
      have hm6 := e6 _ _ hm5
      walk_at "ga"
      refine l_meth ?_
      walk_at "ga"
      refine l_Jm hJ6.fx.obj (by rfl) ?_
      walk_at "ga"
      refine l_ixL (SqL.of hm6) atI_zero ?_
      walk_at "ga"
      refine ⟨a, J, b, M, s, e, p, rfl, hJ6.fx, hJ6.pr, hsr, hb, h5, hp1, fun hl wh H7 e7 hl0 hlm hlw => ?_⟩
      walk_at "ga"
      refine l_mkL0 fun rl H8 e8 hrl0 hrl => ?_
      walk_at "ga"
      refine l_mkT (by show 4 ≤ sizeLine; decide) fun t H9 e9 ht0 ht => ?_
      refine kn s G S hres hG hno e p _ H9 he1 he2 hp1 ((e05.trans e6).trans ((e7.trans e8).trans e9)) ⟨t, mt, hl, rl, rfl, SqT.of ht, .tup (SqT.of ((e7.trans (e8.trans e9)) _ _ hmt)) (.two (.int 0) (.int 1)), ⟨wh, (e8.trans e9) _ _ hlm, tds_same (e8.trans e9) hlw⟩, ⟨[], e9 _ _ hrl, .nil⟩⟩
  · have e04 := e03.trans e4
    have hJ4 := hJ3.same e4
    have hmost := hG.most
    obtain ⟨mt, x1, x2, rfl, hmt, hx1, hx2⟩ := id htd.t2
    cases hx1.int_inv
    cases hx2.int_inv
    walk_at "ga"
    refine l_meth ?_
    walk_at "ga"
    refine l_Jm hJ4.fx.obj (by rfl) ?_
    walk_at "ga"
    refine ⟨a, J, b, M, (s, G, S), up, down, rfl, hJ4, hG.ok, hG.pos, by show G.length ≤ 100; omega, hlen, hG.sl, hG.bd, hG.row, hG.few, fun v k w hw => dom_short hG.ok hG.pos hG.bd hd0 hA k k v w (Nat.le_refl _) hw, hG.reach, fun h hf => hG.ring hd0 hA hB h hf, fun h v q rl ws c H5 hf hv0 hq1 hq2 hlw e5 hrl hrw hc => ?_⟩
    obtain ⟨p, x, hp1, hp2⟩ := hG.play v hv0
    have hJ5 := hJ4.same e5
    walk_at "ga"
    refine l_meth ?_
    walk_at "ga"
    refine l_Jm hJ5.fx.obj (by rfl) ?_
    walk_at "ga"
    refine ⟨a, J, b, M, s, v, p, rfl, hJ5.fx, hJ5.pr, hsr, hb, h5, hp1, fun hl wh H7 e7 hl0 hlm hlw2 => ?_⟩
    walk_at "ga"
    refine l_mkT (by show 4 ≤ sizeLine; decide) fun t H9 e9 ht0 ht => ?_
    exact kr s G S hres hG up down hd0 hd1 hg1 hA hB h v p q _ H9 hf hv0 hq1 hq2 hlw hp1 ((e04.trans e5).trans (e7.trans e9)) ⟨t, mt, hl, rl, rfl, SqT.of ht, td_same (e5.trans (e7.trans e9)) htd, ⟨wh, e9 _ _ hlm, tds_same e9 hlw2⟩, ⟨ws, (e7.trans e9) _ _ hrl, tds_same (e7.trans e9) hrw⟩⟩
end
/-! ### the law's product -/
theorem encAnsN_lay (e : AnsN) : PyData.canLay0 (encAnsN e) = true := by
  unfold encAnsN
  rw [lay_tup, lay_cons, lay_cons, lay_cons, lay_nil, encB_lay, lay_int, lay_int]
  rfl
theorem encAnsN_dep (e : AnsN) : (encAnsN e).depth ≤ 2 := by
  unfold encAnsN
  rw [dep_tup, dep_cons, dep_cons, dep_cons, dep_nil, dep_int, dep_int]
  have := encB_dep e.1
  omega
theorem encAns_shaped (as : List AnsN) : SeqAt.shaped (.list (as.map encAnsN)) = true := by
  refine shaped_of ?_ ?_
  · rw [lay_lst]; exact lay_map fun s _ => encAnsN_lay s
  · rw [dep_lst]
    have := dep_map (f := encAnsN) (n := 2) (l := as) fun s _ => encAnsN_dep s
    omega
theorem movesN_few {b : Book} (hb : b.Ok) {node : Nat} {mv : MvN} (h : mv ∈ movesN b node) : mv.2.length ≤ 4 := by
  unfold movesN at h
  obtain ⟨mv0, hmv0, rfl⟩ := List.mem_map.mp h
  unfold movesM at hmv0
  obtain ⟨foe, hfoe, rfl⟩ := List.mem_map.mp hmv0
  show ((answersM b ((rowM b).getD node []) foe).map _).length ≤ 4
  unfold answersM
  rw [List.length_map, List.length_map]
  refine Nat.le_trans (List.length_filter_le _ _) ?_
  rw [settings_len]
  exact Nat.pow_le_pow_right (n := 2) (by decide) hb.fr2
section
variable {P : Program} {w : World} {K : PySem.W.Frag} {mg : Str → Option Value} {base : Heap}
theorem SetsN.sub {H : Hp} {S T : List Addr} {g : Addr} {G : List Play} (hs : ∀ x ∈ T, x ∈ S) (h : SetsN K H S g G) : SetsN K H T g G := by
  obtain ⟨gs, h1, h2⟩ := h
  exact ⟨gs, h1, Paired.mapP h2 fun _ _ z => ⟨z.1, fun a ha q => z.2 a ha (hs a q)⟩⟩
theorem SetsN.add {H : Hp} {S : List Addr} {g x : Addr} {G : List Play} (hx : H x = none) (h : SetsN K H S g G) : SetsN K H (x :: S) g G := by
  obtain ⟨gs, h1, h2⟩ := h
  refine ⟨gs, h1, Paired.mapP h2 fun v es z => ⟨z.1, fun a ha q => ?_⟩⟩
  rcases List.mem_cons.mp q with q | q
  · obtain ⟨⟨b, us, hb, hb2, _⟩, _⟩ := z
    rw [ha] at hb
    cases hb
    rw [q, hx] at hb2
    cases hb2
  · exact z.2 a ha q
theorem SetsN.row {H : Hp} {S : List Addr} {g : Addr} {G : List Play} (h : SetsN K H S g G) {i : Nat} {p : Play} (hp : G[i]? = some p) : ∃ gs a us, H g = some (.lst gs) ∧ gs.length = G.length ∧ gs[i]? = some (.ref a) ∧ a ∉ S ∧ H a = some (.lst us) ∧ TDs K H us (p.map encB) := by
  obtain ⟨gs, h1, h2⟩ := h
  obtain ⟨v, hv, ⟨a, us, rfl, q1, q2⟩, q3⟩ := paired_get h2 hp
  exact ⟨gs, a, us, h1, h2.length, hv, q3 a rfl, q1, q2⟩
def spProd (K : PySem.W.Frag) : Sp := fun vs H Q _ => ∃ (v u : V) (nl : Addr) (ws : List V) (b : Book) (M : Mach), vs = [v, .ref nl, u] ∧ TD K H v b.enc ∧ b.Ok ∧ TD K H u (encMach M) ∧ MOk b M ∧ M.length ≤ 5 ∧ H nl = some (.lst ws) ∧ TDs K H ws ((rowM b).map (nodeD b (rowM b))) ∧
  (∀ p, srRes b M = .inl p → ∀ t l H', Same H H' → SqT K H' t [.ref l, .non] → PlAt K H' l p → Q (.ref t) H') ∧
  (∀ r, srRes b M = .inr r → r.1.pairs.length = r.2.1.length → ∀ t g H', Same H H' → SqT K H' t [.non, .ref g] → GraphAt K H' g r.2.1 → Q (.ref t) H')
theorem sc_law_product : FnScope ["_law_book_here", "_law_nodes", "_law_machine_here", "_law_order", "_law_pairs", "_law_plays", "_law_graph", "_law_stand", "_law_node", "_law_edges", "_law_foe", "_law_answers", "_law_friend", "_law_to", "_law_play", "_law_some", "_law_answer"] ["_law_book_here", "_law_nodes", "_law_machine_here"] (defScope s_law_product) := ⟨rfl, rfl, rfl, by decide +kernel, rfl, by decide +kernel, by decide +kernel⟩
theorem ok_product (D : Hd K mg) : OkG P w K mg base "_law_product" ["_law_book_here", "_law_nodes", "_law_machine_here"] 2 (spProd K) := by
  have G_law_settings := ok_law_settings (P := P) (w := w) (base := base) D
  obtain ⟨fd, F⟩ := F_law_product D
  refine ⟨g_law_product D, F.kp, fd, F.ok sc_law_product (fun vs H Q E h => ?_) (fun cdv A outer sS H vs Q E hr h => ?_), F.bindsN fun _ _ _ _ _ _ us hl => match us, hl with | [_, _, _], _ => rfl⟩
  · obtain ⟨v, u, nl, ws, b, M, rfl, _⟩ := h
    rfl
  obtain ⟨v, u, nl, wn, b, M, rfl, hv, hb, hu, hM, hM5, hnl, hnd, kb, kg⟩ := h
  have hr2 := hb.fr2
  have hf2 := hb.foe2
  have hf1 := hb.foe1
  obtain ⟨c, x1, x2, x3, x4, x5, rfl, hT, g1, _⟩ := id hv.t5
  obtain ⟨c1, y1, rfl, hT1, hs1⟩ := g1.tup_inv
  cases hs1.strs_inv
  obtain ⟨cm, ym, rfl, hTm, hsm⟩ := id hu.tup_inv
  refine ⟨_, (PSs.nox (pss_cons (ps_set (i := 3) sc_law_product.nd rfl (Or.inl rfl) (pe_cl G_law_settings hr (pa_cons (pe_callB (cl_lenK K) (by rfl) (g_len D) (by decide +kernel) (pa_cons (pe_ix (ix_tupK K) (pv 0) pe_int (fun _ _ => rfl)) pa_nil)) pa_nil)))
      (pss_cons (ps_set (i := 4) sc_law_product.nd rfl (Or.inl rfl) (pe_lst (pa_cons (pe_tup (pa_cons pe_int (pa_cons pe_int pa_nil))) pa_nil)))
      (pss_cons (ps_set (i := 5) sc_law_product.nd rfl (Or.inl rfl) (pe_lst (pa_cons (pe_lst pa_nil) pa_nil)))
      (pss_cons (ps_set (i := 6) sc_law_product.nd rfl (Or.inl rfl) (pe_lst pa_nil))
      (pss_cons (ps_while PassesOwn.never (pt_cmpR op_lt (pe_callB (cl_lenK K) (by rfl) (g_len D) (by decide +kernel) (pa_cons (pv 6) pa_nil)) (pe_callB (cl_lenK K) (by rfl) (g_len D) (by decide +kernel) (pa_cons (pv 4) pa_nil)) (nomark _)) (pss_cons (ps_asg (pe_ix (ix_listK K) (pv 4) (pe_callB (cl_lenK K) (by rfl) (g_len D) (by decide +kernel) (pa_cons (pv 6) pa_nil)) (fun _ _ => rfl)) (pg_tupK K (n := 2) rfl (pgs_cons (pg_name (i := 7) sc_law_product.nd rfl (Or.inl rfl)) (pgs_cons (pg_name (i := 8) sc_law_product.nd rfl (Or.inl rfl)) pgs_nil))))
      (pss_cons (ps_set (i := 9) sc_law_product.nd rfl (Or.inl rfl) (pe_lst pa_nil))
      (pss_cons (ps_for PassesOwn.never rfl (pi_tupK K (pe_ix (ix_tupK K) (pe_ix (ix_listK K) (pv 1) (pv 8) (fun _ _ => rfl)) pe_int (fun _ _ => rfl))) (pg_tupK K (n := 2) rfl (pgs_cons (pg_name (i := 10) sc_law_product.nd rfl (Or.inl rfl)) (pgs_cons (pg_name (i := 11) sc_law_product.nd rfl (Or.inl rfl)) pgs_nil))) (pss_cons (ps_asg (pe_ix (ix_tupK K) (pe_ix (ix_tupK K) (pv 2) (pv 7) (fun _ _ => rfl)) (pe_bmK K PySem.F.plainAttrs_list PySem.F.slot_list_index PySem.F.type_list_index (mt_ixDK K (hu65 hr)) (pv 3) (pa_cons (pv 10) pa_nil)) (fun _ _ => rfl)) (pg_tupK K (n := 2) rfl (pgs_cons (pg_name (i := 12) sc_law_product.nd rfl (Or.inr rfl)) (pgs_cons (pg_name (i := 13) sc_law_product.nd rfl (Or.inl rfl)) pgs_nil))))
      (pss_cons (ps_set (i := 14) sc_law_product.nd rfl (Or.inl rfl) (pe_op op_cat (pe_ix (ix_listK K) (pv 5) (pe_callB (cl_lenK K) (by rfl) (g_len D) (by decide +kernel) (pa_cons (pv 6) pa_nil)) (fun _ _ => rfl)) (pe_lst (pa_cons (pe_op (op_catAK K) (pv 10) (pv 12)) pa_nil))))
      (pss_cons (ps_setLc (i := 15) (own := [("_law_answer", 16)]) (g := gName 16) (by rfl) sc_law_product.nd rfl rfl (sw_true rfl rfl rfl (by decide +kernel)) (pi_tupK K (pv 11)) (blkOk_by (N := ["_law_book_here", "_law_nodes", "_law_machine_here", "_law_order", "_law_pairs", "_law_plays", "_law_graph", "_law_stand", "_law_node", "_law_edges", "_law_foe", "_law_answers", "_law_friend", "_law_to", "_law_play", "_law_some", "_law_answer"]) (sc := defScope s_law_product) (by decide +kernel)) (fun _ _ _ _ _ => (pg_name (i := 16) sc_law_product.nd rfl (Or.inl rfl))) (fun _ _ _ _ _ => (pts_one (pt_cmpR (op_eqDK K (hu64 hr)) (pe_ix (ix_tupK K) (pv 16) pe_int (fun _ _ => rfl)) (pv 12) (nomark _)))) (fun _ _ _ _ _ => (pv 16)))
      (pss_cons (ps_if (pt_cmpR (op_eqDK K (hu64 hr)) (pv 15) (pe_lst pa_nil) (nomark _)) (pss_one (ps_ret (pe_tup (pa_cons (pv 14) (pa_cons pe_non pa_nil))))) pss_nil)
      (C8.pss_cut (ps_if (pt_cmpR (op_niDK K (hu65 hr)) (pe_tup (pa_cons (pv 13) (pa_cons (pe_ix (ix_tupK K) (pe_ix (ix_listK K) (pv 15) pe_int (fun _ _ => rfl)) pe_int (fun _ _ => rfl)) pa_nil))) (pv 4) (by rfl)) (pss_cons (ps_expr (pe_bmK K PySem.F.plainAttrs_list PySem.F.slot_list_append PySem.F.type_list_append mt_append (pv 4) (pa_cons (pe_tup (pa_cons (pv 13) (pa_cons (pe_ix (ix_tupK K) (pe_ix (ix_listK K) (pv 15) pe_int (fun _ _ => rfl)) pe_int (fun _ _ => rfl)) pa_nil))) pa_nil)))
      (pss_one (ps_expr (pe_bmK K PySem.F.plainAttrs_list PySem.F.slot_list_append PySem.F.type_list_append mt_append (pv 5) (pa_cons (pv 14) pa_nil))))) pss_nil)
      (pss_one (ps_expr (pe_bmK K PySem.F.plainAttrs_list PySem.F.slot_list_append PySem.F.type_list_append mt_append (pv 9) (pa_cons (pe_tup (pa_cons (pe_ix (ix_tupK K) (pe_ix (ix_listK K) (pv 15) pe_int (fun _ _ => rfl)) pe_int (fun _ _ => rfl)) (pa_cons (pe_bmK K PySem.F.plainAttrs_list PySem.F.slot_list_index PySem.F.type_list_index (mt_ixDK K (hu65 hr)) (pv 4) (pa_cons (pe_tup (pa_cons (pv 13) (pa_cons (pe_ix (ix_tupK K) (pe_ix (ix_listK K) (pv 15) pe_int (fun _ _ => rfl)) pe_int (fun _ _ => rfl)) pa_nil))) pa_nil)) pa_nil))) pa_nil))))))))))
      (pss_one (ps_expr (pe_bmK K PySem.F.plainAttrs_list PySem.F.slot_list_append PySem.F.type_list_append mt_append (pv 6) (pa_cons (pv 9) pa_nil))))))))
      (pss_one (ps_ret (pe_tup (pa_cons pe_non (pa_cons (pv 6) pa_nil))))))))))), ?_⟩
  walk_at "ga"
  rw [List.length_map]
  refine ⟨b.foe.length, rfl, by omega, fun ol wo H1 e1 hol0 hol hod => ?_⟩
  walk_at "ga"
  refine l_mkT (by show 2 ≤ sizeLine; decide) fun t0 H2 e2 ht00 ht0 => ?_
  walk_at "ga"
  refine l_mkL (by show 1 ≤ sizeLine; decide) fun pl H3 e3 hpl0 hpl => ?_
  walk_at "ga"
  refine l_mkL0 fun y0 H4 e4 hy00 hy0 => ?_
  walk_at "ga"
  refine l_mkL (by show 1 ≤ sizeLine; decide) fun yl H5 e5 hyl0 hyl => ?_
  walk_at "ga"
  refine l_mkL0 fun gl H6 e6 hgl0 hgl => ?_
  have e16 : Same H1 H6 := (e2.trans e3).trans ((e4.trans e5).trans e6)
  have z1 : H1 pl = none := e2.free hpl0
  have z2 : H1 yl = none := ((e2.trans e3).trans e4).free hyl0
  have z3 : H1 gl = none := ((e2.trans e3).trans (e4.trans e5)).free hgl0
  have zS : ∀ l ∈ [pl, yl, gl], H l = none := fun l hl => e1.free (none3 z1 z2 z3 l hl)
  have nt1 : NTup H1 [pl, yl, gl] := NTup.cons (nt_none z1) (NTup.cons (nt_none z2) (NTup.cons (nt_none z3) NTup.nil))
  have npy : pl ≠ yl := ne_of_none (e4 _ _ hpl) hyl0
  have npg : pl ≠ gl := ne_of_none ((e4.trans e5) _ _ hpl) hgl0
  have nyg : yl ≠ gl := ne_of_none hyl hgl0
  have hp6 : ∃ ws, H6 pl = some (.lst ws) ∧ TDs K H6 ws ((sr0).pairs.map encP) := ⟨_, (e4.trans (e5.trans e6)) _ _ hpl, .one (.tup (SqT.of ((e3.trans (e4.trans (e5.trans e6))) _ _ ht0)) (.two (.int _) (.int _)))⟩
  have hy6 : SetsN K H6 [pl, yl, gl] yl sr0.plays := ⟨_, e6 _ _ hyl, .cons ⟨⟨y0, [], rfl, (e5.trans e6) _ _ hy0, .nil⟩, fun a ha => by
    cases ha
    exact nin3 (ne_of_none hpl hy00).symm (ne_of_none hy0 hyl0) (ne_of_none (e5 _ _ hy0) hgl0)⟩ .nil⟩
  have hg6 : GraphN K H6 [pl, yl, gl] gl [] := ⟨[], hgl, .nil⟩
  walk_at "ga"
  refine whileN 100 (fun i σ' H' => ∃ (z7 z8 z9 z10 z11 z12 z13 z14 z15 z16 : Option V), σ' = [some (.ref c), some (.ref nl), some (.ref cm), some (.ref ol), some (.ref pl), some (.ref yl), some (.ref gl), z7, z8, z9, z10, z11, z12, z13, z14, z15, z16] ∧ SameEx [pl, yl, gl] H1 H' ∧
      ∃ (s : Sr) (G : Gr) (S : List Play), (∃ ws, H' pl = some (.lst ws) ∧ TDs K H' ws (s.pairs.map encP)) ∧ SetsN K H' [pl, yl, gl] yl s.plays ∧ GraphN K H' [pl, yl, gl] gl G ∧ SrOk b M s ∧ G.length = i ∧ i ≤ s.pairs.length ∧ srRes b M = srRun b M (100 - i) (s, G, S))
    ⟨_, _, _, _, _, _, _, _, _, _, rfl, SameEx.of_same e16, sr0, [], [], hp6, hy6, hg6, SrOk.init hM, rfl, Nat.zero_le _, rfl⟩ (fun i σ' H7 h => ?_)
  clear hp6 hy6 hg6
  obtain ⟨z7, z8, z9, z10, z11, z12, z13, z14, z15, z16, rfl, e7, s, G, S, ⟨wp, hpl7, hpd⟩, hY, hGN, hs, hg, hi, hrun⟩ := h
  have hlen := hs.len hb hM5
  obtain ⟨gs, hgl7, hgp⟩ := id hGN
  have hgsl : gs.length = i := by rw [hgp.length]; exact hg
  have hwpl : wp.length = s.pairs.length := by rw [hpd.length, List.length_map]
  have s7 : Same H H7 := SameEx.same zS ((SameEx.of_same e1).trans e7)
  have t17 : TupX K H1 H7 := e7.tup nt1
  walk_at "ga"
  rw [hgsl, hwpl]
  refine l_i2 (fun e => ?_) (fun e => ?_)
  · have hlt : i < s.pairs.length := by have := of_decide_eq_true e; omega
    refine wturn (by omega) ?_
    obtain ⟨p, hp⟩ : ∃ p, s.pairs[i]? = some p := ⟨_, List.getElem?_eq_getElem hlt⟩
    have hpm := hs.rng p (List.mem_of_getElem? hp)
    have hpg : s.pairs.getD i (0, 0) = p := by rw [List.getD_eq_getElem?_getD, hp]; rfl
    obtain ⟨up, hup, hupd⟩ := hpd.get (i := i) (d := encP p) (by rw [List.getElem?_map, hp]; rfl)
    obtain ⟨cp, v1, v2, rfl, hTp, q3, q4⟩ := hupd.t2
    cases q3.int_inv
    cases q4.int_inv
    have hng : (rowM b)[p.2]? = some ((rowM b)[p.2]'hpm.2) := List.getElem?_eq_getElem hpm.2
    obtain ⟨un, hun, hund⟩ := hnd.get (i := p.2) (d := nodeD b (rowM b) ((rowM b)[p.2]'hpm.2)) (by rw [List.getElem?_map, hng]; rfl)
    rw [nodeD_eq hng] at hund
    obtain ⟨cn, n1, n2, rfl, hTn, _, q6⟩ := hund.t2
    obtain ⟨cmv, ymv, rfl, hTmv, hsmv⟩ := q6.tup_inv
    have hyl4 : ymv.length = (movesN b p.2).length := by rw [hsmv.length, List.length_map]
    have hml4 := movesN_len hb p.2
    walk_at "ga"
    rw [hgsl]
    refine l_ixL (SqL.of hpl7) (atI_nat hup) ?_
    walk_at "ga"
    refine l_mkL0 fun el H8 e8 el0 hel => ?_
    have s8 := s7.trans e8
    have zel : H el = none := s7.free el0
    have hTn8 := sqt_same s8 hTn
    have hTmv8 := sqt_same s8 hTmv
    walk_at "ga"
    refine l_ixL (SqL.of (s8 _ _ hnl)) (atI_nat hun) ?_
    walk_at "ga"
    have npe : pl ≠ el := ne_of_none hpl7 el0
    have nge : gl ≠ el := ne_of_none hgl7 el0
    obtain ⟨ys, hys7, _⟩ := id hY
    have nye : yl ≠ el := ne_of_none hys7 el0
    have hY8 : SetsN K H8 [el, pl, yl, gl] yl s.plays := (hY.add el0).same e8
    have hol7 : H7 ol = some (.lst wo) := e7 _ _ (nin3 (ne_of_none hol z1) (ne_of_none hol z2) (ne_of_none hol z3)) hol
    have nole : ol ≠ el := ne_of_none hol7 el0
    have hol8 := e8 _ _ hol7
    have hTT : NTup H8 [pl, yl, el] := NTup.cons (nt_lst (e8 _ _ hpl7)) (NTup.cons (nt_lst (e8 _ _ hys7)) (NTup.cons (nt_lst hel) NTup.nil))
    refine forT hTmv8 (fun q σ' H' => ∃ (z10 z11 z12 z13 z14 z15 z16 : Option V), σ' = [some (.ref c), some (.ref nl), some (.ref cm), some (.ref ol), some (.ref pl), some (.ref yl), some (.ref gl), some (.int (p.1 : Nat)), some (.int (p.2 : Nat)), some (.ref el), z10, z11, z12, z13, z14, z15, z16] ∧ SameEx [pl, yl, el] H8 H' ∧
        ∃ acc : Acc, (∃ ws, H' pl = some (.lst ws) ∧ TDs K H' ws (acc.1.pairs.map encP)) ∧ SetsN K H' [el, pl, yl, gl] yl acc.1.plays ∧ SrOk b M acc.1 ∧ acc.1.pairs[i]? = some p ∧ (∃ us, H' el = some (.lst us) ∧ TDs K H' us (acc.2.1.map encE)) ∧ acc.2.1.length = q ∧
          srFold b M i (movesN b p.2) (s, [], []) = srFold b M i ((movesN b p.2).drop q) acc)
      ⟨_, _, _, _, _, _, _, rfl, SameEx.refl, (s, [], []), ⟨wp, e8 _ _ hpl7, tds_same e8 hpd⟩, hY8, hs, hp, ⟨[], hel, .nil⟩, rfl, by rw [List.drop_zero]⟩ (fun q σ' H' _ h => ?_) (fun q x σ' H9 hx h => ?_) (fun σ' H9 h => ?_)
    · obtain ⟨_, _, _, _, _, _, _, _, e9, _⟩ := h
      exact e9.tup hTT _ _ hTmv8
    · obtain ⟨y10, y11, y12, y13, y14, y15, y16, rfl, e9, acc, ⟨wp9, hpl9, hpd9⟩, hY9, hs9, hp9, ⟨us, hel9, hud⟩, hl1, hfold⟩ := h
      have t89 : TupX K H8 H9 := e9.tup hTT
      have s9 : Same H H9 := SameEx.same (S := [pl, yl, el]) (none3 (zS pl (by simp)) (zS yl (by simp)) zel) ((SameEx.of_same s8).trans e9)
      obtain ⟨d, hd1, hx2⟩ := hsmv.at hx
      rw [List.getElem?_map] at hd1
      obtain ⟨mv, hmv, rfl⟩ := Option.map_eq_some_iff.mp hd1
      have hmvm := List.mem_of_getElem? hmv
      obtain ⟨hmv1, hmv2⟩ := movesN_ok hb hpm.2 hmvm
      have hq4 : q < 4 := by have := (List.getElem?_eq_some_iff.mp hmv).1; omega
      obtain ⟨cx, f1, f2, rfl, hTx, hf1', hf2'⟩ := (td_same s9 hx2).t2
      obtain ⟨cf, rfl, hcf⟩ := hf1'.encB_inv
      obtain ⟨cas, yas, rfl, hTas, hsas⟩ := hf2'.tup_inv
      have hu9 : i < acc.1.pairs.length := (List.getElem?_eq_some_iff.mp hp9).1
      obtain ⟨acs, aes, aps⟩ := acc
      simp only at hpd9 hY9 hs9 hp9 hud hl1 hfold hu9
      have hlen9 := hs9.len hb hM5
      obtain ⟨row, r1, r2, r3, r4⟩ := stepM_mem hM hpm.1 hmv1
      have hfr : friendOf b M acs i mv.1 = stepM b M p.1 mv.1 := by
        unfold friendOf
        rw [List.getD_eq_getElem?_getD, hp9]
        rfl
      have hstp : srStep b M i mv (acs, aes, aps) = match mv.2.find? fun x => decide (x.1 = (friendOf b M acs i mv.1).1) with
        | none => none
        | some x => some (acs.add i ((friendOf b M acs i mv.1).2, x.2.2) (mv.1 ++ (friendOf b M acs i mv.1).1), aes ++ [(x.2.1, ixOf ((friendOf b M acs i mv.1).2, x.2.2) (acs.add i ((friendOf b M acs i mv.1).2, x.2.2) (mv.1 ++ (friendOf b M acs i mv.1).1)).pairs)], aps ++ [mv.1 ++ (friendOf b M acs i mv.1).1]) := rfl
      rw [hfr] at hstp
      obtain ⟨u1, p1, p2⟩ := hsm.get (i := p.1) (d := encStand row) (by rw [List.getElem?_map, r1]; rfl)
      obtain ⟨ca, ya, rfl, hTa, hsa⟩ := p2.tup_inv
      obtain ⟨u2, p3, p4⟩ := hsa.get (i := ixOf mv.1 (settings b.foe.length)) (d := encPair (stepM b M p.1 mv.1)) (by rw [List.getElem?_map, r2]; rfl)
      obtain ⟨cb, w1, w2, rfl, hTb, m1, m2⟩ := p4.t2
      obtain ⟨cfr, rfl, hcfr⟩ := m1.encB_inv
      cases m2.int_inv
      have hfold1 := hfold
      rw [drop_get hmv] at hfold1
      have hbl : (mv.1 ++ (stepM b M p.1 mv.1).1).length = b.names.length := by unfold Book.names; rw [List.length_append, List.length_append, hmv1, r3]
      generalize hfrE : stepM b M p.1 mv.1 = fr at *
      have hol9 : H9 ol = some (.lst wo) := e9 _ _ (nin3 (ne_of_none hol z1) (ne_of_none hol z2) nole) hol8
      have hod9 : TDs K H9 wo ((settings b.foe.length).map encB) := ((tds_same e8 (hod.mono t17)).mono t89)
      have hTm9 := sqt_same s9 hTm
      have hTb9 := sqt_same s9 hTb
      have hgl9 : H9 gl = some (.lst gs) := e9 _ _ (nin3 npg.symm nyg.symm nge) (e8 _ _ hgl7)
      have hpl4 : acs.plays[i]? = some (acs.plays.getD i []) := by
        rw [List.getD_eq_getElem?_getD, List.getElem?_eq_getElem (by have := hs9.l1; omega)]
        rfl
      have hpll := (hs9.play (i + 1) i _ (by omega) hpl4).1
      generalize acs.plays.getD i [] = pli at hpl4 hpll
      obtain ⟨ys9, ap, uap, hys9, hysl, hap1, hap2, hap3, hap4⟩ := hY9.row hpl4
      walk_at "ga"
      refine l_ixT hTm9 (atI_nat p1) ?_
      walk_at "ga"
      refine ⟨tyv_list (SqL.of hol9), ?_⟩
      walk_at "ga"
      refine l_ixB (SqL.of hol9) hod9 hcf (settings_all hmv1) ?_
      refine l_ixT (sqt_same s9 hTa) (atI_nat p3) ?_
      walk_at "ga"
      rw [hgsl]
      refine l_ixL (SqL.of hys9) (atI_nat hap1) ?_
      walk_at "ga"
      refine l_catD hcf (sqt_same s9 hcfr) (sz (by rw [List.length_map, List.length_map, hmv1, r3]; omega)) fun c7 H10 e10 hc7 => ?_
      rw [← List.map_append] at hc7
      walk_at "ga"
      refine l_mkL (by show 1 ≤ sizeLine; decide) fun l8 H11 e11 hl80 hl8 => ?_
      walk_at "ga"
      have huapl : uap.length ≤ 100 := by rw [hap4.length, List.length_map]; omega
      refine l_catN ((e10.trans e11) _ _ hap3) hl8 (sz (by show uap.length + 1 ≤ 1000000; omega)) fun l9 H12 e12 hl90 hl9 => ?_
      have e912 : Same H9 H12 := e10.trans (e11.trans e12)
      have s12 := s9.trans e912
      have hl9d : TDs K H12 (uap ++ [.ref c7]) ((pli ++ [mv.1 ++ fr.1]).map encB) := by
        rw [List.map_append]
        exact (tds_same e912 hap4).append (.one (td_encB (sqt_same (e11.trans e12) hc7)))
      have hTas12 := sqt_same e912 hTas
      have hsas12 := tds_same e912 hsas
      have hcfr12 := sqt_same s12 hcfr
      walk_at "ga"
      refine lcTP hTas12 (fun Dd j H' => Same H12 H' ∧ ∃ us, H' Dd = some (.lst us) ∧ TDs K H' us (((mv.2.take j).filter fun x => decide (x.1 = fr.1)).map encAnsN)) (fun Dd hD => ⟨same_new hD, [], upd_same, .nil⟩) (fun Dd j H' h => sqt_same h.1 hTas12) (fun Dd j x H' hD hx h => ?_) (fun so H13 hso0 h => ?_)
      · obtain ⟨e13, us3, hus3, hud3⟩ := h
        obtain ⟨d, hd1, hx2⟩ := hsas12.at hx
        rw [List.getElem?_map] at hd1
        obtain ⟨an, han, rfl⟩ := Option.map_eq_some_iff.mp hd1
        obtain ⟨ce, g1, g2, g3, rfl, hTe, h1, h2, h3⟩ := (td_same e13 hx2).t3
        cases h2.int_inv
        cases h3.int_inv
        obtain ⟨cs, rfl, hcs⟩ := h1.encB_inv
        have hcfr13 := sqt_same e13 hcfr12
        have hul3 : us3.length ≤ j := by
          rw [hud3.length, List.length_map]
          refine Nat.le_trans (List.length_filter_le _ _) ?_
          rw [List.length_take]
          omega
        have hj : j < 1000000 := by
          have := (List.getElem?_eq_some_iff.mp han).1
          have hml : mv.2.length ≤ 4 := movesN_few hb hmvm
          omega
        have hstep : (mv.2.take (j + 1)).filter (fun x => decide (x.1 = fr.1)) = (mv.2.take j).filter (fun x => decide (x.1 = fr.1)) ++ (if an.1 = fr.1 then [an] else []) := by
          rw [take_get han, List.filter_append, List.filter_cons, List.filter_nil]
          by_cases q : an.1 = fr.1
          · rw [if_pos (decide_eq_true q), if_pos q]
          · rw [if_neg (by rw [decide_eq_false q]; exact Bool.false_ne_true), if_neg q]
        walk_at "go"
        refine ⟨rfl, ?_⟩
        walk_at "ga"
        refine l_eqD (td_encB hcs).dp (td_encB hcfr13).dp (encB_shaped _) (encB_shaped _) ?_
        walk_at "go"
        rw [show PyData.eqv (encB an.1) (encB fr.1) = decide (an.1 = fr.1) from bool_iff (encB_eqv _ _)]
        refine l_i2 (fun hc => ?_) (fun hc => ?_)
        · have hc := of_decide_eq_true hc
          rw [if_pos hc] at hstep
          walk_at "ga"
          refine ⟨us3, hus3, szl (by omega), same_mut e13 hD, _, upd_same, ?_⟩
          rw [hstep, List.map_append]
          exact (tds_lst hus3 hud3).append (.one (td_lst hus3 (td_same e13 hx2)))
        · have hc := of_decide_eq_false hc
          rw [if_neg hc, List.append_nil] at hstep
          refine ⟨e13, us3, hus3, ?_⟩
          rw [hstep]
          exact hud3
      obtain ⟨e13, us3, hus3, hud3⟩ := h
      have hyasl : yas.length = mv.2.length := by rw [hsas.length, List.length_map]
      rw [hyasl, List.take_length] at hud3
      walk_at "ga"
      refine l_mkL0 fun lz H14 e14 hlz0 hlz => ?_
      refine l_eqD (dpl (SqL.of (e14 _ _ hus3)) (tds_same e14 hud3)) (dpl (SqL.of hlz) TDs.nil) (encAns_shaped _) (by decide +kernel) ?_
      rw [eqv_lst, eqv_nil]
      have e1214 := e13.trans e14
      have e914 := e912.trans e1214
      have s14 := s9.trans e914
      walk_at "go"
      cases hfl : mv.2.filter fun x => decide (x.1 = fr.1) with
      | nil =>
        have hno : mv.2.find? (fun x => decide (x.1 = fr.1)) = none := by rw [← List.head?_filter, hfl]; rfl
        rw [hno] at hstp
        refine l_iT (by rfl) ?_
        walk_at "ga"
        refine l_mkT (by show 2 ≤ sizeLine; decide) fun t H15 e15 ht0 ht => ?_
        have hgp : acs.plays.getD i [] = pli := by rw [List.getD_eq_getElem?_getD, hpl4]; rfl
        have hbrk : srRes b M = .inl (pli ++ [mv.1 ++ fr.1]) := by
          rw [hrun, show 100 - i = (100 - i - 1) + 1 by omega]
          refine srRun_brk (by show G.length < s.pairs.length; omega) ?_
          show srFold b M G.length (movesN b (s.pairs.getD G.length (0, 0)).2) (s, [], []) = _
          rw [hg, hpg, hfold1, srFold_none hstp]
          show Sum.inl (acs.plays.getD i [] ++ [mv.1 ++ (friendOf b M acs i mv.1).1]) = _
          rw [hfr, hgp]
        exact kb _ hbrk t l9 H15 (s14.trans e15) (SqT.of ht) ⟨_, (e1214.trans e15) _ _ hl9, tds_same (e1214.trans e15) hl9d⟩
      | cons a0 rest =>
        have hsome : mv.2.find? (fun x => decide (x.1 = fr.1)) = some a0 := by rw [← List.head?_filter, hfl]; rfl
        rw [hsome] at hstp
        rw [hfl, List.map_cons] at hud3
        obtain ⟨u0, us4, rfl, hu0, hus4d⟩ := hud3.cons_inv
        obtain ⟨ca0, k1, k2, k3, rfl, hTa0, hk1, hk2, hk3⟩ := hu0.t3
        cases hk2.int_inv
        cases hk3.int_inv
        have hso14 := e14 _ _ hus3
        have hTa014 := sqt_same e14 hTa0
        have hpl14 := e914 _ _ hpl9
        have hpd14 := tds_same e914 hpd9
        have hY14 := hY9.same e914
        have hel14 := e914 _ _ hel9
        have hud14 := tds_same e914 hud
        have hys14 := e914 _ _ hys9
        have hl914 := e1214 _ _ hl9
        have hl9d14 := tds_same e1214 hl9d
        have a0m := (find_mem hsome).1
        have hs15 := hs9.add (u := i) (p := (fr.2, a0.2.2)) (st := mv.1 ++ fr.1) hu9 ⟨r4, (hmv2 a0 a0m).2⟩ hbl
        have hlen15 := hs15.len hb hM5
        have hul : us.length = q := by rw [hud.length, List.length_map, hl1]
        have nso : so ≠ pl ∧ so ≠ yl ∧ so ≠ el := ⟨(ne_of_none (e912 _ _ hpl9) hso0).symm, (ne_of_none (e912 _ _ hys9) hso0).symm, (ne_of_none (e912 _ _ hel9) hso0).symm⟩
        have nl9 : l9 ≠ pl ∧ l9 ≠ yl ∧ l9 ≠ gl ∧ l9 ≠ el := ⟨(ne_of_none ((e10.trans e11) _ _ hpl9) hl90).symm, (ne_of_none ((e10.trans e11) _ _ hys9) hl90).symm, (ne_of_none ((e10.trans e11) _ _ hgl9) hl90).symm, (ne_of_none ((e10.trans e11) _ _ hel9) hl90).symm⟩
        have hgp : acs.plays.getD i [] = pli := by rw [List.getD_eq_getElem?_getD, hpl4]; rfl
        have hadd : (fr.2, a0.2.2) ∉ acs.pairs → acs.add i (fr.2, a0.2.2) (mv.1 ++ fr.1) = ⟨acs.pairs ++ [(fr.2, a0.2.2)], acs.plays ++ [pli ++ [mv.1 ++ fr.1]], acs.ahead ++ [some (i, mv.1 ++ fr.1)]⟩ := fun q => by unfold Sr.add; rw [if_neg q, hgp]
        refine l_iF (by rfl) ?_
        walk_at "ga"
        refine ⟨fun σ' H' => ∃ z16 : Option V, σ' = [some (.ref c), some (.ref nl), some (.ref cm), some (.ref ol), some (.ref pl), some (.ref yl), some (.ref gl), some (.int (p.1 : Nat)), some (.int (p.2 : Nat)), some (.ref el), some (.ref cf), some (.ref cas), some (.ref cfr), some (.int (fr.2 : Nat)), some (.ref l9), some (.ref so), z16] ∧
          SameEx [pl, yl] H14 H' ∧ (∃ ws, H' pl = some (.lst ws) ∧ TDs K H' ws ((acs.add i (fr.2, a0.2.2) (mv.1 ++ fr.1)).pairs.map encP)) ∧ SetsN K H' [el, pl, yl, gl] yl (acs.add i (fr.2, a0.2.2) (mv.1 ++ fr.1)).plays, ?_, fun σ' H15 h => ?_⟩
        · walk_at "ga"
          refine l_ixL (SqL.of hso14) atI_zero ?_
          walk_at "ga"
          refine l_mkT (by show 2 ≤ sizeLine; decide) fun cq H15 e15 hcq0 hcq => ?_
          have hpl15 := e15 _ _ hpl14
          have hpd15 := tds_same e15 hpd14
          have hso15 := e15 _ _ hso14
          have hTa15 := sqt_same e15 hTa014
          have hnew : TD K H15 (.ref cq) (encP (fr.2, a0.2.2)) := .tup (SqT.of hcq) (.two (.int _) (.int _))
          walk_at "ga"
          refine ⟨encP (fr.2, a0.2.2), acs.pairs.map encP, hnew.dp, dpl (SqL.of hpl15) hpd15, encP_shaped _, encPs_shaped _, ?_⟩
          walk_at "go"
          rw [any_enc encP_eqv]
          by_cases hin : (fr.2, a0.2.2) ∈ acs.pairs
          · refine l_iF (by simp [hin]) ?_
            walk_at "ga"
            refine ⟨_, rfl, SameEx.of_same e15, ?_, ?_⟩
            · unfold Sr.add
              rw [if_pos hin]
              exact ⟨_, hpl15, hpd15⟩
            · unfold Sr.add
              rw [if_pos hin]
              exact hY14.same e15
          · refine l_iT (by simp [hin]) ?_
            rw [hadd hin]
            walk_at "ga"
            refine ⟨tyv_list (SqL.of hpl15), ?_⟩
            walk_at "ga"
            refine l_ixL (SqL.of hso15) atI_zero ?_
            walk_at "ga"
            refine l_mkT (by show 2 ≤ sizeLine; decide) fun cr H16 e16 hcr0 hcr => ?_
            walk_at "ga"
            have hpl16 := e16 _ _ hpl15
            refine l_appN hpl16 (szl (by rw [hpd15.length, List.length_map]; omega)) fun H17 e17 hm17 => ?_
            have t17' : TupX K H16 H17 := e17.tup hpl16
            have e1416 := e15.trans e16
            have hys17 : H17 yl = some (.lst ys9) := e17 _ _ npy.symm (e1416 _ _ hys14)
            have hl917 := e17 _ _ nl9.1 (e1416 _ _ hl914)
            have hl9d17 := (tds_same e1416 hl9d14).mono t17'
            have hY17 : SetsN K H17 [el, pl, yl, gl] yl acs.plays := by
              refine SetsN.ex (T := [pl]) (SameEx.of_but e17 List.mem_cons_self) (NTup.cons (nt_lst hpl16) NTup.nil) (fun x hx _ z => hx (by rw [List.mem_singleton.mp z]; simp)) (fun z => npy.symm (List.mem_singleton.mp z)) (hY14.same e1416)
            walk_at "ga"
            refine ⟨tyv_list (SqL.of hys17), ?_⟩
            walk_at "ga"
            refine l_appN hys17 (szl (by rw [hysl]; have := hs9.l1; omega)) fun H18 e18 hm18 => ?_
            have t18 : TupX K H17 H18 := e18.tup hys17
            refine ⟨_, rfl, ?_, ⟨_, e18 _ _ npy hm17, ?_⟩, ?_⟩
            · exact (SameEx.of_same e1416).trans ((SameEx.of_but e17 List.mem_cons_self).trans (SameEx.of_but e18 (List.mem_cons_of_mem _ List.mem_cons_self)))
            · show TDs K H18 _ ((acs.pairs ++ [_]).map encP)
              rw [List.map_append]
              exact (((tds_same e16 hpd15).mono t17').mono t18).append (.one (.tup (t18 _ _ (t17' _ _ (SqT.of hcr))) (.two (.int _) (.int _))))
            · exact hY17.put hys17 (by simp) e18 hm18 hl917 hl9d17 (nin4 nl9.2.2.2 nl9.1 nl9.2.1 nl9.2.2.1)
        · obtain ⟨z16', rfl, e15, ⟨wp15, hpl15, hpd15⟩, hY15⟩ := h
          have nt14 : NTup H14 [pl, yl] := NTup.cons (nt_lst hpl14) (NTup.cons (nt_lst hys14) NTup.nil)
          have t15 : TupX K H14 H15 := e15.tup nt14
          have hel15 : H15 el = some (.lst us) := e15 _ _ (nin2 npe.symm nye.symm) hel14
          have hso15 := e15 _ _ (nin2 nso.1 nso.2.1) hso14
          have hTa15 := t15 _ _ hTa014
          walk_at "ga"
          refine ⟨tyv_list (SqL.of hel15), ?_⟩
          walk_at "ga"
          refine l_ixL (SqL.of hso15) atI_zero ?_
          walk_at "ga"
          refine ⟨tyv_list (SqL.of hpl15), ?_⟩
          walk_at "ga"
          refine l_ixL (SqL.of hso15) atI_zero ?_
          walk_at "ga"
          refine l_mkT (by show 2 ≤ sizeLine; decide) fun cr H16 e16 hcr0 hcr => ?_
          walk_at "ga"
          have hin : (fr.2, a0.2.2) ∈ (acs.add i (fr.2, a0.2.2) (mv.1 ++ fr.1)).pairs := by
            rw [Sr.add_pairs]
            exact mem_add1.mpr (.inr rfl)
          refine l_ixP (SqL.of (e16 _ _ hpl15)) (tds_same e16 hpd15) (.tup (SqT.of hcr) (.two (.int _) (.int _))) hin ?_
          walk_at "ga"
          refine l_mkT (by show 2 ≤ sizeLine; decide) fun cs H17 e17 hcs0 hcs => ?_
          walk_at "ga"
          have e1517 := e16.trans e17
          have hel17 := e1517 _ _ hel15
          refine l_appN hel17 (szl (by omega)) fun H18 e18 hm18 => ?_
          have t18 : TupX K H17 H18 := e18.tup hel17
          have hn : el ∉ ([] : List Addr) := fun z => nomatch z
          have nel : ∀ {x : Addr}, x ≠ el → x ∉ [el] := fun h z => h (List.mem_singleton.mp z)
          have x1418 : SameEx [pl, yl, el] H9 H18 := (SameEx.of_same e914).trans ((SameEx.mono (fun y hy => by
            rcases List.mem_cons.mp hy with rfl | hy
            · simp
            · rw [List.mem_singleton.mp hy]; simp) e15).trans ((SameEx.of_same e1517).trans (SameEx.of_but e18 (by simp))))
          refine ⟨_, _, _, _, _, _, _, rfl, e9.trans x1418, (acs.add i (fr.2, a0.2.2) (mv.1 ++ fr.1), aes ++ [(a0.2.1, ixOf (fr.2, a0.2.2) (acs.add i (fr.2, a0.2.2) (mv.1 ++ fr.1)).pairs)], aps ++ [mv.1 ++ fr.1]), ⟨_, e18 _ _ npe (e1517 _ _ hpl15), (tds_same e1517 hpd15).mono t18⟩, ?_, hs15, ?_, ⟨_, hm18, ?_⟩, ?_, ?_⟩
          · exact SetsN.ex (T := [el]) (SameEx.of_but e18 List.mem_cons_self) (NTup.cons (nt_lst hel17) NTup.nil) (fun x hx _ => nel fun z => hx (by rw [z]; simp)) (nel nye) (hY15.same e1517)
          · show (acs.add i _ _).pairs[i]? = some p
            obtain ⟨t, _, _, ht, _⟩ := acs.add_ext i (fr.2, a0.2.2) (mv.1 ++ fr.1)
            rw [ht, List.getElem?_append_left hu9]
            exact hp9
          · show TDs K H18 _ ((aes ++ [_]).map encE)
            rw [List.map_append]
            exact ((tds_same e1517 (hud14.mono t15)).mono t18).append (.one (.tup (t18 _ _ (SqT.of hcs)) (.two (.int _) (.int _))))
          · show (aes ++ [_]).length = _
            rw [List.length_append, hl1]
            rfl
          · rw [hfold1, srFold_some hstp]
    · obtain ⟨y10, y11, y12, y13, y14, y15, y16, rfl, e9, acc, ⟨wp9, hpl9, hpd9⟩, hY9, hs9, hp9, ⟨us, hel9, hud⟩, hl1, hfold⟩ := h
      obtain ⟨acs, aes, aps⟩ := acc
      simp only at hpd9 hY9 hs9 hp9 hud hl1 hfold
      rw [hyl4, List.drop_length, srFold_nil] at hfold
      have ET : SameEx [pl, yl, el] H7 H9 := (SameEx.of_same e8).trans e9
      have hgl9 : H9 gl = some (.lst gs) := e9 _ _ (nin3 npg.symm nyg.symm nge) (e8 _ _ hgl7)
      have nt7 : NTup H7 [pl, yl, el] := NTup.cons (nt_lst hpl7) (NTup.cons (nt_lst hys7) (NTup.cons (nt_none el0) NTup.nil))
      have hGN9 : GraphN K H9 [pl, yl, gl] gl G := hGN.ex ET nt7 (fun x hx ⟨o, ho⟩ => nin3 (fun z => hx (by rw [z]; simp)) (fun z => hx (by rw [z]; simp)) (ne_of_none ho el0)) (nin3 npg.symm nyg.symm nge)
      have elS : el ∉ [pl, yl, gl] := nin3 npe.symm nye.symm nge.symm
      walk_at "ga"
      refine ⟨tyv_list (SqL.of hgl9), ?_⟩
      walk_at "ga"
      refine l_appN hgl9 (szl (by omega)) fun H10 e10 hm10 => ?_
      have hS9 : NTup H9 [gl] := NTup.cons (nt_lst hgl9) NTup.nil
      have ex10 : SameEx [gl] H9 H10 := SameEx.of_but e10 List.mem_cons_self
      have ngl : ∀ {x : Addr}, x ≠ gl → x ∉ [gl] := fun h z => h (List.mem_singleton.mp z)
      refine ⟨_, _, _, _, _, _, _, _, _, _, rfl, ?_, acs, G ++ [aes], S ++ [aps], ⟨wp9, e10 _ _ npg hpl9, hpd9.mono (e10.tup hgl9)⟩, ?_, hGN9.put hgl9 (by simp) e10 hm10 hel9 hud elS, hs9, by rw [List.length_append, hg]; rfl, (List.getElem?_eq_some_iff.mp hp9).1, ?_⟩
      · refine e7.trans ((SameEx.dropN (T := [pl, yl, el]) (fun x hx => ?_) ET).trans (SameEx.of_but e10 (by simp)))
        rcases List.mem_cons.mp hx with rfl | hx
        · exact .inl (by simp)
        rcases List.mem_cons.mp hx with rfl | hx
        · exact .inl (by simp)
        · rw [List.mem_singleton.mp hx]; exact .inr el0
      · refine SetsN.ex ex10 hS9 (fun x hx _ => ngl fun z => hx (by rw [z]; simp)) (ngl nyg) (hY9.sub fun x hx => List.mem_cons_of_mem _ hx)
      · rw [hrun, show 100 - i = (100 - (i + 1)) + 1 by omega]
        refine srRun_go (acc := (acs, aes, aps)) (by show G.length < s.pairs.length; omega) ?_
        show srFold b M G.length (movesN b (s.pairs.getD G.length (0, 0)).2) (s, [], []) = _
        rw [hg, hpg, hfold]
  · have hge : s.pairs.length ≤ i := by have := of_decide_eq_false e; omega
    walk_at "ga"
    have hend : srRes b M = .inr (s, G, S) := by rw [hrun]; exact srRun_end (by rw [hg]; exact hge)
    refine l_mkT (by show 2 ≤ sizeLine; decide) fun t H8 e8 ht0 ht => ?_
    exact kg _ hend (by show s.pairs.length = G.length; omega) t gl H8 (s7.trans e8) (SqT.of ht) (hGN.at.same e8)
end
/-! ### none is worse -/
theorem Way.cut {G : Gr} {k u v : Nat} {x : Int} (h : Way G k u v x) : ∀ m, m ≤ k → ∃ y x1 x2, Way G m u y x1 ∧ Way G (k - m) y v x2 ∧ x1 + x2 = x := by
  induction h with
  | nil u => intro m hm; exact ⟨_, 0, 0, by rw [Nat.le_zero.mp hm]; exact .nil _, by rw [Nat.le_zero.mp hm]; exact .nil _, rfl⟩
  | @snoc k u v x l t hw he ih2 =>
    intro m hm
    by_cases e : m = k + 1
    · subst e
      exact ⟨t, x + l, 0, hw.snoc he, by rw [Nat.sub_self]; exact .nil t, by omega⟩
    · obtain ⟨y, x1, x2, g1, g2, g3⟩ := ih2 m (by omega)
      refine ⟨y, x1, x2 + l, g1, ?_, by omega⟩
      rw [show k + 1 - m = (k - m) + 1 by omega]
      exact g2.snoc he
/-- no ring weighs more than nothing -/
def RingLe (G : Gr) (up down : Int) : Prop := ∀ v c x, v < G.length → Way G c v v x → adj up down c x ≤ 0
structure NOk (G : Gr) (up down : Int) (t : Nat) (hs : List Int) : Prop where
  len : hs.length = G.length
  val : ∀ (v : Nat) (x : Int), hs[v]? = some x → ∃ k u w, k ≤ t ∧ u < G.length ∧ Way G k u v w ∧ x = adj up down k w
def NCov (G : Gr) (up down : Int) (t : Nat) (hs : List Int) : Prop := ∀ k u v w, k ≤ t → u < G.length → Way G k u v w → ∃ x, hs[v]? = some x ∧ adj up down k w ≤ x
def NLe (a c : List Int) : Prop := ∀ (v : Nat) (x : Int), a[v]? = some x → ∃ y, c[v]? = some y ∧ x ≤ y
def NDone (G : Gr) (up down : Int) (h0 hs : List Int) (j q : Nat) : Prop := ∀ (u e : Nat) (l : Int) (t : Nat) (x0 : Int), (G.at u)[e]? = some (l, t) → (u < j ∨ u = j ∧ e < q) → h0[u]? = some x0 → ∃ y, hs[t]? = some y ∧ x0 + down * l - up ≤ y
theorem NLe.refl (h : List Int) : NLe h h := fun _ x h => ⟨x, h, Int.le_refl _⟩
theorem NLe.trans {a b c : List Int} (h1 : NLe a b) (h2 : NLe b c) : NLe a c := fun v x h => by
  obtain ⟨y, g1, g2⟩ := h1 v x h
  obtain ⟨z, f1, f2⟩ := h2 v y g1
  exact ⟨z, f1, by omega⟩
theorem NLe.put {hs : List Int} {t : Nat} {y x : Int} (ht : hs[t]? = some x) (h : x ≤ y) : NLe hs (hs.set t y) := fun v z hv => by
  by_cases e : t = v
  · subst e
    rw [ht] at hv
    cases hv
    exact ⟨y, List.getElem?_set_self (List.getElem?_eq_some_iff.mp ht).1, h⟩
  · exact ⟨z, by rw [List.getElem?_set_ne e]; exact hv, Int.le_refl _⟩
theorem NDone.mono {G : Gr} {up down : Int} {h0 hs hs2 : List Int} {j q : Nat} (h : NDone G up down h0 hs j q) (e : NLe hs hs2) : NDone G up down h0 hs2 j q := fun u e1 l t x0 h1 h2 h3 => by
  obtain ⟨y, g1, g2⟩ := h u e1 l t x0 h1 h2 h3
  obtain ⟨z, f1, f2⟩ := e t y g1
  exact ⟨z, f1, by omega⟩
theorem NDone.zero {G : Gr} {up down : Int} {h0 hs : List Int} : NDone G up down h0 hs 0 0 := fun u e l t x0 _ h => absurd h (by omega)
theorem NDone.row {G : Gr} {up down : Int} {h0 hs : List Int} {j q : Nat} (h : NDone G up down h0 hs j q) (hq : (G.at j).length ≤ q) : NDone G up down h0 hs (j + 1) 0 := fun u e l t x0 h1 h2 h3 => h u e l t x0 h1 (by
  by_cases hu : u = j
  · subst hu
    have := (List.getElem?_eq_some_iff.mp h1).1
    omega
  · omega) h3
theorem NDone.edge {G : Gr} {up down : Int} {h0 hs : List Int} {j q : Nat} {l : Int} {t : Nat} (h : NDone G up down h0 hs j q) (he : (G.at j)[q]? = some (l, t)) (hn : ∀ x0, h0[j]? = some x0 → ∃ y, hs[t]? = some y ∧ x0 + down * l - up ≤ y) : NDone G up down h0 hs j (q + 1) := fun u e l' t' x0 h1 h2 h3 => by
  by_cases hu : u = j ∧ e = q
  · obtain ⟨rfl, rfl⟩ := hu
    rw [he] at h1
    cases h1
    exact hn x0 h3
  · exact h u e l' t' x0 h1 (by omega) h3
theorem NDone.cov {G : Gr} {up down : Int} {h0 hs : List Int} {t : Nat} (hc : NCov G up down t h0) (hl : NLe h0 hs) (h : NDone G up down h0 hs G.length 0) : NCov G up down (t + 1) hs := fun k u v w hk hu hw => by
  by_cases e : k ≤ t
  · obtain ⟨x, g1, g2⟩ := hc k u v w e hu hw
    obtain ⟨y, f1, f2⟩ := hl v x g1
    exact ⟨y, f1, by omega⟩
  · cases hw with
    | nil => omega
    | @snoc k' _ v' x l _ hw he =>
      obtain ⟨x0, g1, g2⟩ := hc k' u v' x (by omega) hu hw
      obtain ⟨i, hi, ei⟩ := List.mem_iff_getElem.mp he
      obtain ⟨y, f1, f2⟩ := h v' i l v x0 (List.getElem?_eq_some_iff.mpr ⟨hi, ei⟩) (.inl (Gr.at_mem he)) g1
      refine ⟨y, f1, ?_⟩
      rw [adj_snoc]
      omega
theorem NOk.put {G : Gr} {up down : Int} {t : Nat} {h0 hs : List Int} (o : NOk G up down t h0) (h : NOk G up down (t + 1) hs) {u v : Nat} {l x : Int} (hu : h0[u]? = some x) (he : (l, v) ∈ G.at u) : NOk G up down (t + 1) (hs.set v (x + down * l - up)) := by
  refine ⟨by rw [List.length_set]; exact h.len, fun v' x' hv => ?_⟩
  by_cases e : v = v'
  · subst e
    have hlt : v < hs.length := by
      have := (List.getElem?_eq_some_iff.mp hv).1
      rwa [List.length_set] at this
    rw [List.getElem?_set_self hlt] at hv
    cases hv
    obtain ⟨k, u0, w, g1, g2, g3, g4⟩ := o.val u x hu
    refine ⟨k + 1, u0, w + l, by omega, g2, g3.snoc he, ?_⟩
    rw [adj_snoc, g4]
    omega
  · rw [List.getElem?_set_ne e] at hv
    exact h.val v' x' hv
theorem NOk.up {G : Gr} {up down : Int} {t : Nat} {hs : List Int} (o : NOk G up down t hs) : NOk G up down (t + 1) hs := ⟨o.len, fun v x h => by
  obtain ⟨k, u, w, g1, g2⟩ := o.val v x h
  exact ⟨k, u, w, by omega, g2⟩⟩
/-- behind as many rounds as there are nodes nothing grows -/
theorem N_eq {G : Gr} {up down : Int} (hG : G.Ok) (hr : RingLe G up down) {h0 hs : List Int} {t : Nat} (ht : t + 1 = G.length) (o0 : NOk G up down t h0) (c0 : NCov G up down t h0) (o : NOk G up down (t + 1) hs) (le : NLe h0 hs) : hs = h0 := by
  apply List.ext_getElem?
  intro v
  by_cases hv : v < G.length
  · have e0 : h0[v]? = some (h0[v]'(by rw [o0.len]; exact hv)) := List.getElem?_eq_getElem _
    have e1 : hs[v]? = some (hs[v]'(by rw [o.len]; exact hv)) := List.getElem?_eq_getElem _
    generalize h0[v]'(by rw [o0.len]; exact hv) = x0 at e0
    generalize hs[v]'(by rw [o.len]; exact hv) = x1 at e1
    obtain ⟨y, g1, g2⟩ := le v x0 e0
    rw [e1] at g1
    cases g1
    obtain ⟨k, u, w, f1, f2, f3, f4⟩ := o.val v x1 e1
    have : x1 ≤ x0 := by
      by_cases hk : k ≤ t
      · obtain ⟨y, q1, q2⟩ := c0 k u v w hk f2 f3
        rw [e0] at q1
        cases q1
        omega
      · obtain ⟨a, c, b, y, y1, y2, y3, p1, p2, p3, p4, p5, p6⟩ := f3.pigeon hG f2 (by omega)
        have hy : y < G.length := p3.lt hG f2
        have hring := hr y c y2 hy p4
        obtain ⟨z, q1, q2⟩ := c0 (a + b) u v (y1 + y3) (by omega) f2 (p3.app p5)
        rw [e0] at q1
        cases q1
        have : adj up down k w = adj up down (a + b) (y1 + y3) + adj up down c y2 := by
          rw [← adj_app, show a + b + c = k by omega, show y1 + y3 + y2 = w by omega]
        omega
    rw [e0, e1, show x1 = x0 by omega]
  · rw [List.getElem?_eq_none (by rw [o.len]; omega), List.getElem?_eq_none (by rw [o0.len]; omega)]
theorem ints_eqv (a c : List Int) : PyData.eqv (.list (a.map PyData.int)) (.list (c.map PyData.int)) = decide (a = c) := by
  rw [eqv_lst]
  exact bool_iff (eqvA_map (fun x y => by rw [eqv_int, decide_eq_true_eq]) a c)
section
variable {P : Program} {w : World} {K : PySem.W.Frag} {mg : Str → Option Value} {base : Heap}
def spNone (K : PySem.W.Frag) : Sp := fun vs H Q _ => ∃ (g : Addr) (G : Gr) (up down : Int), vs = [.ref g, .int up, .int down] ∧ GraphAt K H g G ∧ G.Ok ∧ 0 < G.length ∧ G.length ≤ 1000 ∧ G.Bd 1000 ∧ RingLe G up down ∧ ∀ H', Same H H' → Q (.bl true) H'
theorem sc_law_none_worse : FnScope ["_law_graph", "_law_up", "_law_down", "_law_heights", "_law_edges", "_law_turn", "_law_made", "_law_at", "_law_loss", "_law_to"] ["_law_graph", "_law_up", "_law_down"] (defScope s_law_none_worse) := ⟨rfl, rfl, rfl, by decide +kernel, rfl, by decide +kernel, by decide +kernel⟩
theorem ok_none_worse (D : Hd K mg) : OkG P w K mg base "_law_none_worse" ["_law_graph", "_law_up", "_law_down"] 1 (spNone K) := by
  obtain ⟨fd, F⟩ := F_law_none_worse D
  refine ⟨g_law_none_worse D, F.kp, fd, F.ok sc_law_none_worse (fun vs H Q E h => ?_) (fun cdv A outer sS H vs Q E hr h => ?_), F.bindsN fun _ _ _ _ _ _ us hl => match us, hl with | [_, _, _], _ => rfl⟩
  · obtain ⟨g, G, up, down, rfl, _⟩ := h
    rfl
  obtain ⟨g, G, up, down, rfl, hg, hG, h0, hz, hbd, hring, q⟩ := h
  obtain ⟨gs, hgs, hgp⟩ := id hg
  have hgl : gs.length = G.length := hgp.length
  refine ⟨_, (PSs.nox (pss_cons (ps_setLc (i := 3) (own := [("_law_edges", 4)]) (g := gName 4) (tt := tYes) (by rfl) sc_law_none_worse.nd rfl rfl (sw_true rfl rfl rfl (by decide +kernel)) (pi_listK K (pv 0)) (blkOk_by (N := ["_law_graph", "_law_up", "_law_down", "_law_heights", "_law_edges", "_law_turn", "_law_made", "_law_at", "_law_loss", "_law_to"]) (sc := defScope s_law_none_worse) (by decide +kernel)) (fun _ _ _ _ _ => (pg_name (i := 4) sc_law_none_worse.nd rfl (Or.inl rfl))) (fun _ _ _ _ _ => pts_nil) (fun _ _ _ _ _ => pe_int))
      (pss_cons (ps_for PassesOwn.never rfl (pi_range1 (by rfl) (g_range D) (pa_cons (pe_op op_add (pe_callB (cl_lenK K) (by rfl) (g_len D) (by decide +kernel) (pa_cons (pv 0) pa_nil)) pe_int) pa_nil)) (pg_name (i := 5) sc_law_none_worse.nd rfl (Or.inl rfl)) (pss_cons (ps_set (i := 6) sc_law_none_worse.nd rfl (Or.inl rfl) (pe_callTy (cl_listK K) (by rfl) (g_list D) (by decide +kernel) (pa_cons (pv 3) pa_nil)))
      (pss_cons (ps_for PassesOwn.never rfl (pi_range1 (by rfl) (g_range D) (pa_cons (pe_callB (cl_lenK K) (by rfl) (g_len D) (by decide +kernel) (pa_cons (pv 0) pa_nil)) pa_nil)) (pg_name (i := 7) sc_law_none_worse.nd rfl (Or.inl rfl)) (pss_one (ps_for PassesOwn.never rfl (pi_listK K (pe_ix (ix_listK K) (pv 0) (pv 7) (fun _ _ => rfl))) (pg_tupK K (n := 2) rfl (pgs_cons (pg_name (i := 8) sc_law_none_worse.nd rfl (Or.inl rfl)) (pgs_cons (pg_name (i := 9) sc_law_none_worse.nd rfl (Or.inl rfl)) pgs_nil))) (pss_one (ps_asg (pe_callB (cl_max2 rfl) (by rfl) (g_max D) (by decide +kernel) (pa_cons (pe_ix (ix_listK K) (pv 6) (pv 9) (fun _ _ => rfl)) (pa_cons (pe_op op_sub (pe_op op_add (pe_ix (ix_listK K) (pv 3) (pv 7) (fun _ _ => rfl)) (pe_op op_mul (pv 2) (pv 8))) (pv 1)) pa_nil))) (pg_sub (pv 6) (pv 9) set_list))))))
      (pss_cons (ps_if (pt_cmpR (op_eqDK K (hu64 hr)) (pv 6) (pv 3) (nomark _)) (pss_one (ps_ret pe_bl)) pss_nil)
      (pss_one (ps_set (i := 3) sc_law_none_worse.nd rfl (Or.inl rfl) (pv 6)))))))
      (pss_one (ps_ret pe_bl))))), ?_⟩
  walk_at "ga"
  refine lcL (SqL.of hgs) (fun i => (List.replicate i (0 : Int)).map V.int) rfl (fun Dd i x H' hD hx e hm => ?_) (fun l H1 hl e1 hm => ?_)
  · walk_at "go"
    refine ⟨rfl, ?_⟩
    walk_at "ga"
    have hi := (List.getElem?_eq_some_iff.mp hx).1
    exact lc_put (zs := fun i => (List.replicate i (0 : Int)).map V.int) hD e hm (szl (by rw [List.length_map, List.length_replicate]; omega)) (by rw [List.replicate_succ', List.map_append]; rfl)
  rw [hgl] at hm
  have hgs1 := e1 _ _ hgs
  walk_at "ga"
  rw [hgl]
  refine l_rngI (n := G.length + 1) (by omega) ?_
  have hk0 : NOk G up down 0 (List.replicate G.length 0) := ⟨List.length_replicate, fun v x hv => by
    rw [List.getElem?_replicate] at hv
    split at hv
    · next hv2 =>
      cases hv
      exact ⟨0, v, 0, Nat.le_refl _, hv2, .nil v, by unfold adj; omega⟩
    · cases hv⟩
  have hc0 : NCov G up down 0 (List.replicate G.length 0) := fun k u v x hk hu hw => by
    have : k = 0 := by omega
    subst this
    cases hw
    exact ⟨0, by rw [List.getElem?_replicate, if_pos hu], by unfold adj; omega⟩
  refine forR (fun t σ' H' => ∃ (z4 z5 z6 z7 z8 z9 : Option V) (hl : Addr) (hs : List Int), σ' = [some (.ref g), some (.int up), some (.int down), some (.ref hl), z4, z5, z6, z7, z8, z9] ∧ Same H H' ∧ H' hl = some (.lst (hs.map V.int)) ∧ NOk G up down t hs ∧ NCov G up down t hs ∧ t < G.length)
    (by omega) ⟨_, _, _, _, _, _, l, _, rfl, e1, hm, hk0, hc0, h0⟩ (fun t σ' H2 ht h => ?_) (fun σ' H2 h => ?_)
  · obtain ⟨z4, z5, z6, z7, z8, z9, hl, hs, rfl, e2, hm2, o2, c2, htl⟩ := h
    walk_at "ga"
    refine l_listL (SqL.of hm2) fun mk hmk0 => ?_
    have e3 : Same H2 (upd H2 mk (.lst (hs.map V.int))) := same_new hmk0
    have hm3 : upd H2 mk (.lst (hs.map V.int)) mk = some (.lst (hs.map V.int)) := upd_same
    revert e3 hm3
    generalize upd H2 mk (.lst (hs.map V.int)) = H3
    intro e3 hm3
    have e03 := e2.trans e3
    have zmk : H mk = none := e2.free hmk0
    have nhl : hl ≠ mk := ne_of_none hm2 hmk0
    have hl3 := e3 _ _ hm2
    have hg3 := hg.same e03
    have hgs3 := e03 _ _ hgs
    walk_at "ga"
    rw [hgl]
    refine forR (fun j σ' H' => ∃ (z7 z8 z9 : Option V) (hs2 : List Int), σ' = [some (.ref g), some (.int up), some (.int down), some (.ref hl), z4, some (.int (t : Nat)), some (.ref mk), z7, z8, z9] ∧ SameBut mk H3 H' ∧ H' mk = some (.lst (hs2.map V.int)) ∧ NOk G up down (t + 1) hs2 ∧ NLe hs hs2 ∧ NDone G up down hs hs2 j 0)
      (by omega) ⟨_, _, _, hs, rfl, SameBut.refl mk H3, hm3, o2.up, NLe.refl hs, NDone.zero⟩ (fun j σ' H4 hj h => ?_) (fun σ' H4 h => ?_)
    · obtain ⟨z7, z8, z9, hs2, rfl, e4, hm4, o4, le4, d4⟩ := h
      have e04 : Same H H4 := e4.same e03 zmk
      obtain ⟨gs', ae, us, p1, p2, p3, p4⟩ := (hg.same e04).row hj
      have nae : ae ≠ mk := by
        obtain ⟨gs2, ae2, us2, r1, r2, r3, r4⟩ := hg.row hj
        have q := e04 _ _ r1
        rw [p1] at q
        cases q
        rw [p2] at r2
        cases r2
        exact ne_of_none r3 zmk
      have hul : us.length = (G.at j).length := by rw [p4.length, List.length_map]
      walk_at "ga"
      refine l_ixL (SqL.of p1) (atI_nat p2) ?_
      refine forL (SqL.of p3) (fun q σ' H' => ∃ (z8 z9 : Option V) (hs2 : List Int), σ' = [some (.ref g), some (.int up), some (.int down), some (.ref hl), z4, some (.int (t : Nat)), some (.ref mk), some (.int (j : Nat)), z8, z9] ∧ SameBut mk H4 H' ∧ H' mk = some (.lst (hs2.map V.int)) ∧ NOk G up down (t + 1) hs2 ∧ NLe hs hs2 ∧ NDone G up down hs hs2 j q)
        ⟨_, _, hs2, rfl, SameBut.refl mk H4, hm4, o4, le4, d4⟩ (fun q σ' H' _ h => ?_) (fun q x σ' H5 hx h => ?_) (fun σ' H5 h => ?_)
      · obtain ⟨_, _, _, _, e5, _⟩ := h
        exact SqL.of (e5 _ _ nae p3)
      · obtain ⟨y8, y9, hs3, rfl, e5, hm5, o5, le5, d5⟩ := h
        obtain ⟨dd, hd1, hx2⟩ := p4.at hx
        rw [List.getElem?_map] at hd1
        obtain ⟨⟨el, et⟩, he, rfl⟩ := Option.map_eq_some_iff.mp hd1
        have t5 : TupX K H4 H5 := e5.tup hm4
        obtain ⟨c, u1, u2, rfl, hc', q1, q2⟩ := (hx2.mono t5).t2
        cases q1.int_inv
        cases q2.int_inv
        have hem : (el, et) ∈ G.at j := List.mem_of_getElem? he
        have het : et < G.length := hG.to hem
        have hel : 0 ≤ el ∧ el ≤ 1000 := hbd _ (List.mem_of_getElem? (Gr.at_get hj)) _ hem
        have hl5 := o5.len
        have hl2 := o2.len
        have ej : hs[j]? = some (hs[j]'(by omega)) := List.getElem?_eq_getElem (by omega)
        have ee : hs3[et]? = some (hs3[et]'(by omega)) := List.getElem?_eq_getElem (by omega)
        generalize hs[j]'(by omega) = xj at ej
        generalize hs3[et]'(by omega) = xe at ee
        have hhl5 : H5 hl = some (.lst (hs.map V.int)) := e5 _ _ nhl (e4 _ _ nhl hl3)
        walk_at "ga"
        refine l_ixL (SqL.of hm5) (atI_nat (v := .int xe) (by rw [List.getElem?_map, ee]; rfl)) ?_
        walk_at "ga"
        refine l_ixL (SqL.of hhl5) (atI_nat (v := .int xj) (by rw [List.getElem?_map, ej]; rfl)) ?_
        walk_at "ga"
        refine l_I (.inr ⟨by omega, by omega⟩) ?_
        walk_at "ga"
        refine l_gsub ?_
        walk_at "ga"
        refine l_setI (t := et) hm5 (by rw [List.length_map]; omega) fun H6 e6 hm6 => ?_
        rw [← List.map_set] at hm6
        by_cases hgt : xj + down * el - up > xe
        · rw [if_pos hgt] at hm6
          have hp := NLe.put (hs := hs3) (t := et) (y := xj + down * el - up) ee (by omega)
          refine ⟨_, _, _, rfl, e5.trans e6, hm6, NOk.put o2 o5 ej hem, le5.trans hp, (d5.mono hp).edge he fun x0 hx0 => ⟨_, List.getElem?_set_self (by omega), ?_⟩⟩
          rw [ej] at hx0
          cases hx0
          omega
        · rw [if_neg hgt] at hm6
          have hset : hs3.set et xe = hs3 := by
            apply List.ext_getElem?
            intro v
            by_cases e : et = v
            · subst e
              rw [List.getElem?_set_self (by omega), ee]
            · rw [List.getElem?_set_ne e]
          rw [hset] at hm6
          refine ⟨_, _, hs3, rfl, e5.trans e6, hm6, o5, le5, d5.edge he fun x0 hx0 => ⟨xe, ee, ?_⟩⟩
          rw [ej] at hx0
          cases hx0
          omega
      · obtain ⟨y8, y9, hs3, rfl, e5, hm5, o5, le5, d5⟩ := h
        exact ⟨_, _, _, hs3, rfl, e4.trans e5, hm5, o5, le5, d5.row (by rw [hul]; exact Nat.le_refl _)⟩
    · obtain ⟨z7, z8, z9, hs2, rfl, e4, hm4, o4, le4, d4⟩ := h
      have e04 : Same H H4 := e4.same e03 zmk
      have hhl4 : H4 hl = some (.lst (hs.map V.int)) := e4 _ _ nhl hl3
      walk_at "ga"
      refine l_eqD (dpl (SqL.of hm4) TDs.ints) (dpl (SqL.of hhl4) TDs.ints) (ints_shaped _) (ints_shaped _) ?_
      rw [ints_eqv]
      walk_at "go"
      refine l_i2 (fun he => ?_) (fun he => ?_)
      · walk_at "ga"
        exact q H4 e04
      · have he := of_decide_eq_false he
        walk_at "ga"
        refine ⟨_, _, _, _, _, _, mk, hs2, rfl, e04, hm4, o4, NDone.cov c2 le4 d4, ?_⟩
        refine Nat.lt_of_le_of_ne (by omega) fun z => he ?_
        exact N_eq hG hring z o2 c2 o4 le4
  · obtain ⟨z4, z5, z6, z7, z8, z9, hl, hs, rfl, e2, hm2, o2, c2, htl⟩ := h
    omega
end
/-! ### a mean; no ring -/
/-- the nodes from which ways of t edges go -/
def leftM (G : Gr) : Nat → List Nat
  | 0 => List.range G.length
  | t + 1 => (leftM G t).filter fun v => decide ((G.at v).filter (fun e => decide (e.2 ∈ leftM G t)) ≠ [])
theorem Way.cons {G : Gr} {k v t y : Nat} {l x : Int} (he : (l, t) ∈ G.at v) (h : Way G k t y x) : Way G (k + 1) v y (l + x) := by
  have h1 : Way G (0 + 1) v t (0 + l) := (Way.nil v).snoc he
  have := h1.app h
  rwa [Int.zero_add, show 0 + 1 + k = k + 1 by omega] at this
theorem leftM_way {G : Gr} : ∀ t v, v ∈ leftM G t → ∃ y x, Way G t v y x
  | 0, v, _ => ⟨v, 0, .nil v⟩
  | t + 1, v, h => by
    obtain ⟨_, h2⟩ := List.mem_filter.mp h
    have h2 := of_decide_eq_true h2
    obtain ⟨e, he⟩ := List.exists_mem_of_ne_nil _ h2
    obtain ⟨e1, e2⟩ := List.mem_filter.mp he
    obtain ⟨y, x, hw⟩ := leftM_way t e.2 (of_decide_eq_true e2)
    exact ⟨y, _, Way.cons (l := e.1) e1 hw⟩
theorem leftM_lt {G : Gr} : ∀ t v, v ∈ leftM G t → v < G.length
  | 0, v, h => List.mem_range.mp h
  | t + 1, v, h => leftM_lt t v (List.mem_filter.mp h).1
theorem leftM_len {G : Gr} : ∀ t, (leftM G t).length ≤ G.length
  | 0 => by show (List.range G.length).length ≤ _; rw [List.length_range]; exact Nat.le_refl _
  | t + 1 => Nat.le_trans (List.length_filter_le _ _) (leftM_len t)
section
variable {P : Program} {w : World} {K : PySem.W.Frag} {mg : Str → Option Value} {base : Heap}
theorem tds_nats {H : Hp} : ∀ {ns : List Nat}, TDs K H (vNats ns) (ns.map fun n => PyData.int (n : Nat))
  | [] => .nil
  | n :: ns => .cons (.int _) (tds_nats (ns := ns))
theorem nats_shaped (ns : List Nat) : SeqAt.shaped (.list (ns.map fun n => PyData.int (n : Nat))) = true := by
  have := ints_shaped (ns.map fun n : Nat => (n : Int))
  rwa [List.map_map] at this
theorem rgV_nat (n : Nat) : rgV 0 (n : Nat) = vNats (List.range n) := by
  unfold rgV vNats
  rw [show ((n : Int) - 0).toNat = n by omega]
  exact List.map_congr_left fun i _ => by rw [Int.zero_add]
theorem rg_ok {n : Nat} (h : n ≤ 1000) : RgOk 0 (n : Nat) := .of_le (by omega) (by omega) (by omega) (by omega)
theorem sc_law_whole : FnScope ["_law_found"] ["_law_found"] (defScope s_law_whole) := ⟨rfl, rfl, rfl, by decide +kernel, rfl, by decide +kernel, by decide +kernel⟩
theorem ok_lwhole (D : Hd K mg) : OkG P w K mg base "_law_whole" ["_law_found"] 1 spWhole := by
  obtain ⟨fd, F⟩ := F_law_whole D
  refine ⟨g_law_whole D, F.kp, fd, F.ok sc_law_whole (fun vs H Q E h => ?_) (fun cdv A outer sS H vs Q E hr h => ?_), F.bindsN fun _ _ _ _ _ _ us hl => match us, hl with | [_], _ => rfl⟩
  · obtain ⟨i, rfl, _⟩ := h
    rfl
  obtain ⟨i, rfl, k⟩ := h
  refine ⟨_, (PSs.nox (pss_one (ps_ret (pe_and (pe_callB (cl_isiK K) (by rfl) (g_isinstance D) (by decide +kernel) (pa_cons (pv 0) (pa_cons (pe_bltn (v := .ty "int") (by rfl) (g_int D) (by decide +kernel) rfl) pa_nil))) (pe_one (pe_not (pe_callB (cl_isiK K) (by rfl) (g_isinstance D) (by decide +kernel) (pa_cons (pv 0) (pa_cons (pe_bltn (v := .ty "bool") (by rfl) (g_bool D) (by decide +kernel) rfl) pa_nil))))))))), ?_⟩
  walk_at "ga"
  exact k
def spIsMean (K : PySem.W.Frag) : Sp := fun vs H Q _ => ∃ (v : V) (up down : Int), vs = [v] ∧ TD K H v (.tuple [.int up, .int down]) ∧ 0 ≤ up ∧ 1 ≤ down ∧ Int.gcd up down = 1 ∧ Q (.bl true) H
theorem sc_law_is_mean : FnScope ["_law_thing", "_law_a", "_law_b", "_law_rest"] ["_law_thing"] (defScope s_law_is_mean) := ⟨rfl, rfl, rfl, by decide +kernel, rfl, by decide +kernel, by decide +kernel⟩
theorem ok_is_mean (D : Hd K mg) : OkG P w K mg base "_law_is_mean" ["_law_thing"] 2 (spIsMean K) := by
  have G_law_whole := ok_lwhole (P := P) (w := w) (base := base) D
  obtain ⟨fd, F⟩ := F_law_is_mean D
  refine ⟨g_law_is_mean D, F.kp, fd, F.ok sc_law_is_mean (fun vs H Q E h => ?_) (fun cdv A outer sS H vs Q E hr h => ?_), F.bindsN fun _ _ _ _ _ _ us hl => match us, hl with | [_], _ => rfl⟩
  · obtain ⟨v, up, down, rfl, _⟩ := h
    rfl
  obtain ⟨v, up, down, rfl, hv, hu, hd, hg, k⟩ := h
  obtain ⟨a, x, y, rfl, hT, hx, hy⟩ := hv.t2
  cases hx.int_inv
  cases hy.int_inv
  refine ⟨_, (PSs.nox (pss_cons (ps_if (PW.pt (pw_or (pt_not (pt_val (pe_callB (cl_isiK K) (by rfl) (g_isinstance D) (by decide +kernel) (pa_cons (pv 0) (pa_cons (pe_bltn (v := .ty "tuple") (by rfl) (g_tuple D) (by decide +kernel) rfl) pa_nil))))) (pw_or (pt_cmpR op_ne (pe_callB (cl_lenK K) (by rfl) (g_len D) (by decide +kernel) (pa_cons (pv 0) pa_nil)) pe_int (nomark _)) (pw_or (pt_not (pt_val (pe_cl G_law_whole hr (pa_cons (pe_ix (ix_tupK K) (pv 0) pe_int (fun _ _ => rfl)) pa_nil)))) (pw_or1 (pt_not (pt_val (pe_cl G_law_whole hr (pa_cons (pe_ix (ix_tupK K) (pv 0) pe_int (fun _ _ => rfl)) pa_nil))))))))) (pss_one (ps_ret pe_bl)) pss_nil)
      (pss_cons (ps_if (PW.pt (pw_or (pt_cmpR op_lt (pe_ix (ix_tupK K) (pv 0) pe_int (fun _ _ => rfl)) pe_int (nomark _)) (pw_or1 (pt_cmpR op_lt (pe_ix (ix_tupK K) (pv 0) pe_int (fun _ _ => rfl)) pe_int (nomark _))))) (pss_one (ps_ret pe_bl)) pss_nil)
      (pss_cons (ps_asg (pv 0) (pg_tupK K (n := 2) rfl (pgs_cons (pg_name (i := 1) sc_law_is_mean.nd rfl (Or.inl rfl)) (pgs_cons (pg_name (i := 2) sc_law_is_mean.nd rfl (Or.inl rfl)) pgs_nil))))
      (pss_cons (ps_while PassesOwn.never (pt_cmpR op_gt (pv 2) pe_int (nomark _)) (pss_cons (ps_set (i := 3) sc_law_is_mean.nd rfl (Or.inl rfl) (pe_op op_mod (pv 1) (pv 2)))
      (pss_cons (ps_set (i := 1) sc_law_is_mean.nd rfl (Or.inl rfl) (pv 2))
      (pss_one (ps_set (i := 2) sc_law_is_mean.nd rfl (Or.inl rfl) (pv 3))))))
      (pss_one (ps_ret (pe_cmpR op_eq (pv 1) pe_int (nomark _))))))))), ?_⟩
  walk_at "ga"
  refine ⟨up, rfl, ?_⟩
  walk_at "ga"
  refine ⟨down, rfl, ?_⟩
  walk_at "ga"
  refine l_iF (decide_eq_false (by omega)) ?_
  walk_at "ga"
  refine l_iF (decide_eq_false (by omega)) ?_
  walk_at "ga"
  refine whileN (down.toNat + 2) (fun i σ' H' => ∃ (a' b' : Int) (z : Option V), σ' = [some (.ref a), some (.int a'), some (.int b'), z] ∧ H' = H ∧ 0 ≤ b' ∧ b' + (i : Nat) ≤ down ∧ Int.gcd a' b' = 1 ∧ (b' = 0 → 0 ≤ a')) ⟨up, down, _, rfl, rfl, by omega, by omega, hg, fun z => by omega⟩ (fun i σ' H' h => ?_)
  obtain ⟨a', b', z, rfl, rfl, h1, h2, h3, h4⟩ := h
  walk_at "ga"
  refine l_i2 (fun e => ?_) (fun e => ?_)
  · have e := of_decide_eq_true e
    refine wturn (by omega) ?_
    walk_at "ga"
    refine l_I e ?_
    walk_at "ga"
    have m1 := Int.emod_nonneg a' (b := b') (by omega)
    have m2 := Int.emod_lt_of_pos a' e
    exact ⟨b', a' % b', _, rfl, rfl, m1, by omega, by rw [gcd_mod]; exact h3, fun _ => by omega⟩
  · have e := of_decide_eq_false e
    have eb : b' = 0 := by omega
    have := h4 eb
    rw [eb, Int.gcd_zero_right] at h3
    walk_at "ga"
    rw [vint_eq, decide_eq_true (show a' = 1 by omega)]
    exact k
def spHasRing (K : PySem.W.Frag) : Sp := fun vs H Q _ => ∃ (g : Addr) (G : Gr), vs = [.ref g] ∧ GraphAt K H g G ∧ G.length ≤ 1000 ∧ (∀ v, (G.at v).length ≤ 1000) ∧ (∀ v, v < G.length → ∀ y x, ¬ Way G G.length v y x) ∧ ∀ H', Same H H' → Q (.bl false) H'
theorem sc_law_has_ring : FnScope ["_law_graph", "_law_left", "_law_turn", "_law_at", "_law_loss", "_law_to"] ["_law_graph"] (defScope s_law_has_ring) := ⟨rfl, rfl, rfl, by decide +kernel, rfl, by decide +kernel, by decide +kernel⟩
theorem ok_has_ring (D : Hd K mg) : OkG P w K mg base "_law_has_ring" ["_law_graph"] 1 (spHasRing K) := by
  obtain ⟨fd, F⟩ := F_law_has_ring D
  refine ⟨g_law_has_ring D, F.kp, fd, F.ok sc_law_has_ring (fun vs H Q E h => ?_) (fun cdv A outer sS H vs Q E hr h => ?_), F.bindsN fun _ _ _ _ _ _ us hl => match us, hl with | [_], _ => rfl⟩
  · obtain ⟨g, G, rfl, _⟩ := h
    rfl
  obtain ⟨g, G, rfl, hg, hz, hfew, hno, q⟩ := h
  obtain ⟨gs, hgs, hgp⟩ := id hg
  have hgl : gs.length = G.length := hgp.length
  refine ⟨_, (PSs.nox (pss_cons (ps_set (i := 1) sc_law_has_ring.nd rfl (Or.inr rfl) (pe_listRg rfl (by rfl) (g_list D) (prg_1 (by rfl) (g_range D) (pe_callB (cl_lenK K) (by rfl) (g_len D) (by decide +kernel) (pa_cons (pv 0) pa_nil)))))
      (pss_cons (ps_for PassesOwn.never rfl (pi_range1 (by rfl) (g_range D) (pa_cons (pe_callB (cl_lenK K) (by rfl) (g_len D) (by decide +kernel) (pa_cons (pv 0) pa_nil)) pa_nil)) (pg_name (i := 2) sc_law_has_ring.nd rfl (Or.inl rfl)) (pss_one (ps_set (i := 1) sc_law_has_ring.nd rfl (Or.inr rfl) (pe_lc (own := [("_law_at", 3)]) (g := gName 3) (by rfl) sc_law_has_ring.nd (pi_listK K (pv 1)) (blkOk_by (N := ["_law_graph", "_law_left", "_law_turn", "_law_at", "_law_loss", "_law_to"]) (sc := defScope s_law_has_ring) (by decide +kernel)) (fun _ _ _ _ _ => (pg_name (i := 3) sc_law_has_ring.nd rfl (Or.inl rfl))) (fun _ _ _ _ _ => (pts_one (pt_cmpR (op_neDK K (hu64 hr)) (pe_lc (own := [("_law_loss", 4), ("_law_to", 5)]) (by rfl) sc_law_has_ring.nd (pi_listK K (pe_ix (ix_listK K) (pv 0) (pv 3) (fun _ _ => rfl))) (blkOk_by (N := ["_law_graph", "_law_left", "_law_turn", "_law_at", "_law_loss", "_law_to"]) (sc := ⟨.function, [(".0", .local), ("_law_at", .local), ("_law_graph", .cell), ("_law_left", .cell)], false, false, []⟩) (by decide +kernel)) (fun _ _ _ _ _ => (pg_tupK K (n := 2) rfl (pgs_cons (pg_name (i := 4) sc_law_has_ring.nd rfl (Or.inl rfl)) (pgs_cons (pg_name (i := 5) sc_law_has_ring.nd rfl (Or.inl rfl)) pgs_nil)))) (fun _ _ _ _ _ => (pts_one (pt_cmpR (op_inK K) (pv 5) (pv 1) (by rfl)))) (fun _ _ _ _ _ => (pv 5))) (pe_lst pa_nil) (nomark _)))) (fun _ _ _ _ _ => (pv 3))))))
      (pss_one (ps_ret (pe_cmpR (op_neDK K (hu64 hr)) (pv 1) (pe_lst pa_nil) (nomark _))))))), ?_⟩
  walk_at "ga"
  refine (show ∀ {te : L2.St → Hp → (Int → Int → Hp → Prop) → Prop} {σ : L2.St} {H : Hp} {Q : VK}, (te σ H fun a b H1 => RgOk a b ∧ ∀ q, H1 q = none → Q (.ref q) (upd H1 q (.lst (rgV a b)))) → tLstRg te σ H Q from fun q => q) ?_
  refine (show ∀ {ta : TE} {σ : L2.St} {H : Hp} {Q : Int → Int → Hp → Prop}, (ta σ H fun x H1 => ∃ n, x = .int n ∧ Q 0 n H1) → tRg1 ta σ H Q from fun q => q) ?_
  walk_at "ga"
  rw [hgl]
  refine ⟨rg_ok (by omega), fun l hl => ?_⟩
  have e1 : Same H (upd H l (.lst (rgV 0 (G.length : Nat)))) := same_new hl
  have hm1 : upd H l (.lst (rgV 0 (G.length : Nat))) l = some (.lst (vNats (leftM G 0))) := by rw [upd_same, rgV_nat]; rfl
  revert e1 hm1
  generalize upd H l (.lst (rgV 0 (G.length : Nat))) = H1
  intro e1 hm1
  have hgs1 := e1 _ _ hgs
  walk_at "ga"
  rw [hgl]
  refine forR (fun t σ' H' => ∃ (z2 z3 z4 z5 : Option V) (ll : Addr), σ' = [some (.ref g), some (.ref ll), z2, z3, z4, z5] ∧ Same H H' ∧ H' ll = some (.lst (vNats (leftM G t))))
    (by omega) ⟨_, _, _, _, l, rfl, e1, hm1⟩ (fun t σ' H2 ht h => ?_) (fun σ' H2 h => ?_)
  · obtain ⟨z2, z3, z4, z5, ll, rfl, e2, hm2⟩ := h
    walk_at "ga"
    refine lcL (SqL.of hm2) (fun i => vNats (((leftM G t).take i).filter fun v => decide ((G.at v).filter (fun e => decide (e.2 ∈ leftM G t)) ≠ []))) rfl (fun Dd i x H3 hD hx e3 hm3 => ?_) (fun l2 H3 hl2 e3 hm3 => ?_)
    · obtain ⟨v, hv, rfl⟩ : ∃ v, (leftM G t)[i]? = some v ∧ x = .int (v : Nat) := by
        unfold vNats at hx
        rw [List.getElem?_map] at hx
        obtain ⟨v, h1, h2⟩ := Option.map_eq_some_iff.mp hx
        exact ⟨v, h1, h2.symm⟩
      have hvl := leftM_lt t v (List.mem_of_getElem? hv)
      have hll := leftM_len (G := G) t
      have hil := (List.getElem?_eq_some_iff.mp hv).1
      have e03 := e2.trans e3
      obtain ⟨gs', ae, us, p1, p2, p3, p4⟩ := (hg.same e03).row hvl
      have hm23 := e3 _ _ hm2
      walk_at "go"
      refine ⟨rfl, ?_⟩
      walk_at "ga"
      refine l_ixL (SqL.of p1) (atI_nat p2) ?_
      have hfv := hfew v
      have hul : us.length = (G.at v).length := by rw [p4.length, List.length_map]
      refine lcL (SqL.of p3) (fun j => vNats ((((G.at v).take j).filter fun e => decide (e.2 ∈ leftM G t)).map (·.2))) rfl (fun D2 j x H4 hD2 hx4 e4 hm4 => ?_) (fun l5 H4 hl5 e4 hm4 => ?_)
      · obtain ⟨d, hd1, hx2⟩ := p4.at hx4
        rw [List.getElem?_map] at hd1
        obtain ⟨⟨el, et⟩, he, rfl⟩ := Option.map_eq_some_iff.mp hd1
        obtain ⟨c, u1, u2, rfl, hc', q1, q2⟩ := (td_same e4 hx2).t2
        cases q1.int_inv
        cases q2.int_inv
        have hm24 := e4 _ _ hm23
        have hjl := (List.getElem?_eq_some_iff.mp he).1
        have hst : (((G.at v).take (j + 1)).filter fun e => decide (e.2 ∈ leftM G t)).map (·.2) = (((G.at v).take j).filter fun e => decide (e.2 ∈ leftM G t)).map (·.2) ++ (if decide (et ∈ leftM G t) = true then [et] else []) := filt_take (fun e : Int × Nat => decide (e.2 ∈ leftM G t)) (·.2) he
        have hfl : (vNats ((((G.at v).take j).filter fun e => decide (e.2 ∈ leftM G t)).map (·.2))).length ≤ 1000 := by
          rw [vNats_len, List.length_map]
          refine Nat.le_trans (List.length_filter_le _ _) ?_
          rw [List.length_take]
          omega
        walk_at "go"
        refine ⟨rfl, ?_⟩
        walk_at "ga"
        refine l_inL (SqL.of hm24) rfl (flat_nats _) ?_
        rw [if_neg Bool.false_ne_true, inV_nats]
        walk_at "go"
        refine l_i2 (fun hb => ?_) (fun hb => ?_)
        · rw [if_pos hb] at hst
          walk_at "ga"
          refine lc_put (zs := fun j => vNats ((((G.at v).take j).filter fun e => decide (e.2 ∈ leftM G t)).map (·.2))) hD2 e4 hm4 (szl (by omega)) ?_
          show vNats ((((G.at v).take (j + 1)).filter _).map _) = _
          rw [hst, vNats_snoc]
        · rw [if_neg (by rw [hb]; exact Bool.false_ne_true), List.append_nil] at hst
          refine lc_skip (zs := fun j => vNats ((((G.at v).take j).filter fun e => decide (e.2 ∈ leftM G t)).map (·.2))) e4 hm4 ?_
          show vNats ((((G.at v).take (j + 1)).filter _).map _) = _
          rw [hst]
      have hm4 : H4 l5 = some (.lst (vNats ((((G.at v).take us.length).filter fun e => decide (e.2 ∈ leftM G t)).map (·.2)))) := hm4
      rw [hul, List.take_length] at hm4
      walk_at "ga"
      refine l_mkL0 fun lz H5 e5 hlz0 hlz => ?_
      refine l_neD (dpl (SqL.of (e5 _ _ hm4)) tds_nats) (dpl (SqL.of hlz) TDs.nil) (nats_shaped _) (by decide +kernel) ?_
      rw [eqv_lst, eqv_nil]
      have hst : ((leftM G t).take (i + 1)).filter (fun v => decide ((G.at v).filter (fun e => decide (e.2 ∈ leftM G t)) ≠ [])) = ((leftM G t).take i).filter (fun v => decide ((G.at v).filter (fun e => decide (e.2 ∈ leftM G t)) ≠ [])) ++ (if (G.at v).filter (fun e => decide (e.2 ∈ leftM G t)) ≠ [] then [v] else []) := by
        rw [take_get hv, List.filter_append, List.filter_cons, List.filter_nil]
        by_cases q : (G.at v).filter (fun e => decide (e.2 ∈ leftM G t)) ≠ []
        · rw [if_pos (decide_eq_true q), if_pos q]
        · rw [if_neg (by rw [decide_eq_false q]; exact Bool.false_ne_true), if_neg q]
      have hm35 := (e4.trans e5) _ _ hm3
      have hfl : (vNats (((leftM G t).take i).filter (fun v => decide ((G.at v).filter (fun e => decide (e.2 ∈ leftM G t)) ≠ [])))).length ≤ 1000 := by
        rw [vNats_len]
        refine Nat.le_trans (List.length_filter_le _ _) ?_
        rw [List.length_take]
        omega
      walk_at "go"
      by_cases hb : (G.at v).filter (fun e => decide (e.2 ∈ leftM G t)) = []
      · refine l_iF (by rw [hb]; rfl) ?_
        rw [if_neg (fun z => z hb), List.append_nil] at hst
        refine lc_skip (zs := fun i => vNats (((leftM G t).take i).filter fun v => decide ((G.at v).filter (fun e => decide (e.2 ∈ leftM G t)) ≠ []))) (e3.trans (e4.trans e5)) hm35 ?_
        show vNats (((leftM G t).take (i + 1)).filter _) = _
        rw [hst]
      · refine l_iT (by
          rw [decide_eq_false (fun z => hb (List.map_eq_nil_iff.mp z))]
          rfl) ?_
        rw [if_pos hb] at hst
        walk_at "ga"
        refine lc_put (zs := fun i => vNats (((leftM G t).take i).filter fun v => decide ((G.at v).filter (fun e => decide (e.2 ∈ leftM G t)) ≠ []))) hD (e3.trans (e4.trans e5)) hm35 (szl (by omega)) ?_
        show vNats (((leftM G t).take (i + 1)).filter _) = _
        rw [hst, vNats_snoc]
    · have hm3 : H3 l2 = some (.lst (vNats (((leftM G t).take (vNats (leftM G t)).length).filter fun v => decide ((G.at v).filter (fun e => decide (e.2 ∈ leftM G t)) ≠ [])))) := hm3
      rw [vNats_len, List.take_length] at hm3
      walk_at "ga"
      exact ⟨_, _, _, _, l2, rfl, e2.trans e3, hm3⟩
  · obtain ⟨z2, z3, z4, z5, ll, rfl, e2, hm2⟩ := h
    have hnil : leftM G G.length = [] := by
      cases hl : leftM G G.length with
      | nil => rfl
      | cons v r =>
        have hv : v ∈ leftM G G.length := by rw [hl]; exact List.mem_cons_self
        obtain ⟨y, x, hw⟩ := leftM_way _ v hv
        exact absurd hw (hno v (leftM_lt _ v hv) y x)
    rw [hnil] at hm2
    walk_at "ga"
    refine l_mkL0 fun lz H5 e5 hlz0 hlz => ?_
    refine l_neD (dpl (SqL.of (e5 _ _ hm2)) (tds_nats (ns := []))) (dpl (SqL.of hlz) TDs.nil) (nats_shaped _) (by decide +kernel) ?_
    rw [eqv_lst, eqv_nil]
    exact q H5 (e2.trans e5)
end
/-! ### endless -/
/-- the answers of a node that a setting gives -/
def somesN (b : Book) (node : Nat) (st : List Bool) : List AnsN :=
  (movesN b node).flatMap fun mv => mv.2.filter fun a => decide (mv.1 = st.take b.foe.length ∧ a.1 = st.drop b.foe.length)
inductive NPath (b : Book) : Play → Nat → Prop
  | nil : NPath b [] 0
  | snoc {p : Play} {n : Nat} {st : List Bool} {a : AnsN} {r : List AnsN} : NPath b p n → somesN b n st = a :: r → NPath b (p ++ [st]) a.2.2
theorem flatMap_one {α β : Type} {f : α → List β} : ∀ {l : List α} {i : Nat} {x : α}, l[i]? = some x → (∀ j y, l[j]? = some y → j ≠ i → f y = []) → l.flatMap f = f x
  | y :: l, 0, x, h, hn => by
    cases h
    have : l.flatMap f = [] := List.flatMap_eq_nil_iff.mpr fun z hz => by
      obtain ⟨j, hj, e⟩ := List.mem_iff_getElem.mp hz
      exact hn (j + 1) z (by rw [List.getElem?_cons_succ]; exact List.getElem?_eq_some_iff.mpr ⟨hj, e⟩) (by omega)
    rw [List.flatMap_cons, this, List.append_nil]
  | y :: l, i + 1, x, h, hn => by
    have h0 := hn 0 y rfl (by omega)
    rw [List.flatMap_cons, h0, List.nil_append]
    exact flatMap_one (l := l) (i := i) (by simpa using h) fun j z hz hj => hn (j + 1) z (by simpa using hz) (by omega)
theorem settings_nd {n : Nat} (h : n ≤ 2) : (settings n).Nodup := by
  match n, h with
  | 0, _ => decide
  | 1, _ => decide
  | 2, _ => decide
theorem movesN_fst {b : Book} {node : Nat} (hb : b.Ok) : ((movesN b node).map (·.1)).Nodup := by
  unfold movesN movesM
  rw [List.map_map, List.map_map]
  have e : ((settings b.foe.length).filter fun foe => keepsM b b.proms ((rowM b).getD node []) (foe ++ List.replicate b.fr.length false)).map (((fun x => x.1) ∘ fun mv : List Bool × List Ans => (mv.1, mv.2.map (ansN (rowM b)))) ∘ fun foe => (foe, answersM b ((rowM b).getD node []) foe)) =
      ((settings b.foe.length).filter fun foe => keepsM b b.proms ((rowM b).getD node []) (foe ++ List.replicate b.fr.length false)) := by
    conv => rhs; rw [← List.map_id ((settings b.foe.length).filter _)]
    exact List.map_congr_left fun x _ => rfl
  rw [e]
  exact (settings_nd hb.foe2).filter _
/-- an edge's setting gives its answer -/
theorem somes_edge {b : Book} (hb : b.Ok) {M : Mach} {ps : List (Nat × Nat)} {p : Nat × Nat} {i : Nat} {mv : MvN} {e : Int × Nat} {st : List Bool} (hn : p.2 < (rowM b).length) (hmv : (movesN b p.2)[i]? = some mv) (h : EdgeOf b M ps p mv e st) (hs : (stepM b M p.1 mv.1).1.length = b.fr.length) :
    ∃ a r, somesN b p.2 st = a :: r ∧ e.1 = a.2.1 ∧ ps[e.2]? = some ((stepM b M p.1 mv.1).2, a.2.2) := by
  obtain ⟨a, h1, h2, h3, h4⟩ := h
  have hl := (movesN_ok hb hn (List.mem_of_getElem? hmv)).1
  have e1 : st.take b.foe.length = mv.1 := by rw [h3, ← hl, List.take_left]
  have e2 : st.drop b.foe.length = (stepM b M p.1 mv.1).1 := by rw [h3, ← hl, List.drop_left]
  have hone : somesN b p.2 st = mv.2.filter fun a => decide (a.1 = (stepM b M p.1 mv.1).1) := by
    unfold somesN
    rw [e1, e2, flatMap_one hmv]
    · exact List.filter_congr fun x _ => by simp
    · intro j y hy hj
      rw [List.filter_eq_nil_iff]
      intro x _ hx
      have hx := (of_decide_eq_true hx).1
      have hnd := movesN_fst (node := p.2) hb
      have g1 : ((movesN b p.2).map (·.1))[j]? = some mv.1 := by rw [List.getElem?_map, hy]; exact congrArg some hx
      have g2 : ((movesN b p.2).map (·.1))[i]? = some mv.1 := by rw [List.getElem?_map, hmv]; rfl
      obtain ⟨q1, q2⟩ := List.getElem?_eq_some_iff.mp g1
      obtain ⟨q3, q4⟩ := List.getElem?_eq_some_iff.mp g2
      exact hj ((List.getElem_inj hnd).mp (q2.trans q4.symm))
  cases hf : mv.2.filter fun a => decide (a.1 = (stepM b M p.1 mv.1).1) with
  | nil =>
    have : mv.2.find? (fun x => decide (x.1 = (stepM b M p.1 mv.1).1)) = none := by rw [← List.head?_filter, hf]; rfl
    rw [h1] at this
    cases this
  | cons a' r =>
    have : mv.2.find? (fun x => decide (x.1 = (stepM b M p.1 mv.1).1)) = some a' := by rw [← List.head?_filter, hf]; rfl
    rw [h1] at this
    cases this
    exact ⟨a, r, by rw [hone, hf], h2, h4⟩
theorem somes_rng {b : Book} (hb : b.Ok) {node : Nat} (hn : node < (rowM b).length) {st : List Bool} {a : AnsN} (h : a ∈ somesN b node st) : a.2.2 < (rowM b).length := by
  unfold somesN at h
  obtain ⟨mv, hmv, ha⟩ := List.mem_flatMap.mp h
  exact ((movesN_ok hb hn hmv).2 a (List.mem_filter.mp ha).1).2
theorem NPath.lt {b : Book} (hb : b.Ok) {p : Play} {n : Nat} (h : NPath b p n) : n < (rowM b).length := by
  induction h with
  | nil => exact rowM_pos b
  | snoc _ he ih => exact somes_rng hb ih (by rw [he]; exact List.mem_cons_self)
/-- the ways that begin a path -/
theorem NPath.pre {b : Book} : ∀ {p : Play} {n : Nat}, NPath b p n → ∀ i, i < p.length → ∃ (m : Nat) (a : AnsN) (r : List AnsN) (st : List Bool), NPath b (p.take i) m ∧ p[i]? = some st ∧ somesN b m st = a :: r ∧ NPath b (p.take (i + 1)) a.2.2 := by
  intro p n h
  induction h with
  | nil => intro i hi; have : ([] : Play).length = 0 := rfl; omega
  | @snoc p n st a r hp he ih =>
    intro i hi
    have e : (p ++ [st]).length = p.length + 1 := List.length_append
    rw [e] at hi
    by_cases hl : i < p.length
    · obtain ⟨m, a', r', st', g1, g2, g3, g4⟩ := ih i hl
      refine ⟨m, a', r', st', ?_, ?_, g3, ?_⟩
      · rw [List.take_append_of_le_length (by omega)]; exact g1
      · rw [List.getElem?_append_left hl]; exact g2
      · rw [List.take_append_of_le_length (by omega)]; exact g4
    · have e : i = p.length := by omega
      subst e
      refine ⟨n, a, r, st, ?_, ?_, he, ?_⟩
      · rw [List.take_left]; exact hp
      · rw [List.getElem?_append_right (Nat.le_refl _), Nat.sub_self]; rfl
      · rw [List.take_of_length_le (by rw [List.length_append]; exact Nat.le_refl _)]
        exact hp.snoc he
theorem NPath.inj {b : Book} : ∀ {p : Play} {n : Nat}, NPath b p n → ∀ {q : Play} {m : Nat}, NPath b q m → p = q → n = m := by
  intro p n h
  induction h with
  | nil =>
    intro q m h2 e
    cases h2 with
    | nil => rfl
    | snoc _ _ => exact absurd (congrArg List.length e) (by rw [List.length_append]; show 0 ≠ _ + 1; omega)
  | @snoc p n st a r hp he ih =>
    intro q m h2 e
    cases h2 with
    | nil => exact absurd (congrArg List.length e) (by rw [List.length_append]; show _ + 1 ≠ 0; omega)
    | @snoc q n2 st2 a2 r2 hp2 he2 =>
      have e1 := List.append_inj e (by have := congrArg List.length e; rw [List.length_append, List.length_append] at this; simpa using this)
      have e2 : st = st2 := by injection e1.2
      have := ih hp2 e1.1
      subst this e2
      rw [he] at he2
      cases he2
      rfl
section
variable {P : Program} {w : World} {K : PySem.W.Frag} {mg : Str → Option Value} {base : Heap}
theorem l_slTN {H : Hp} {Q : VK} {a : Addr} {xs : List V} {lo hi : Option Int} (h : SqT K H a xs) (q : ∀ c H', Same H H' → SqT K H' c (cutV xs lo hi) → Q (.ref c) H') : rSlA K (.ref a) lo hi H Q := by
  refine l_slT h (fun e => q a H (Same.refl H) ?_) fun _ p hp => q p _ (same_new hp) (SqT.of upd_same)
  have : cutV xs lo hi = xs := by
    unfold cutV
    rw [e.1, e.2, List.drop_zero, Nat.sub_zero, List.take_length]
  rw [this]
  exact h
theorem l_extN {H : Hp} {Q : VK} {a c : Addr} {xs ys : List V} (h : H a = some (.lst xs)) (h2 : H c = some (.lst ys)) (hz : xs.length + ys.length ≤ sizeLine) (q : ∀ H', SameBut a H H' → H' a = some (.lst (xs ++ ys)) → Q .non H') : rExtend (.ref a) [.ref c] H Q :=
  ⟨a, c, xs, ys, rfl, rfl, h, h2, hz, q _ SameBut.upd upd_same⟩
def spEndless (K : PySem.W.Frag) : Sp := fun vs H Q _ => ∃ (v : V) (nl pl : Addr) (ws : List V) (b : Book) (p : Play) (n : Nat), vs = [v, .ref nl, .ref pl] ∧ TD K H v b.enc ∧ b.Ok ∧ H nl = some (.lst ws) ∧ TDs K H ws ((rowM b).map (nodeD b (rowM b))) ∧ PlAt K H pl p ∧ NPath b p n ∧ (∀ st ∈ p, st.length = b.names.length) ∧
  movesN b n = [] ∧ ∀ H', Same H H' → Q (.bl false) H'
theorem sc_law_is_endless : FnScope ["_law_book_here", "_law_nodes", "_law_play", "_law_node", "_law_setting", "_law_foe", "_law_some", "_law_move", "_law_answer"] ["_law_book_here", "_law_nodes", "_law_play"] (defScope s_law_is_endless) := ⟨rfl, rfl, rfl, by decide +kernel, rfl, by decide +kernel, by decide +kernel⟩
theorem ok_is_endless (D : Hd K mg) : OkG P w K mg base "_law_is_endless" ["_law_book_here", "_law_nodes", "_law_play"] 1 (spEndless K) := by
  obtain ⟨fd, F⟩ := F_law_is_endless D
  refine ⟨g_law_is_endless D, F.kp, fd, F.ok sc_law_is_endless (fun vs H Q E h => ?_) (fun cdv A outer sS H vs Q E hr h => ?_), F.bindsN fun _ _ _ _ _ _ us hl => match us, hl with | [_, _, _], _ => rfl⟩
  · obtain ⟨v, nl, pl, ws, b, p, n, rfl, _⟩ := h
    rfl
  obtain ⟨v, nl, pl, wn, b, p, n, rfl, hv, hb, hnl, hnd, ⟨wp, hpl, hpd⟩, hpath, hlen, hend, k⟩ := h
  obtain ⟨c, x1, x2, x3, x4, x5, rfl, hT, g1, _⟩ := id hv.t5
  obtain ⟨c1, y1, rfl, hT1, hs1⟩ := g1.tup_inv
  cases hs1.strs_inv
  have hpl' : wp.length = p.length := by rw [hpd.length, List.length_map]
  refine ⟨_, (PSs.nox (pss_cons (ps_set (i := 3) sc_law_is_endless.nd rfl (Or.inl rfl) pe_int)
      (pss_cons (ps_for PassesOwn.never rfl (pi_listK K (pv 2)) (pg_name (i := 4) sc_law_is_endless.nd rfl (Or.inr rfl)) (pss_cons (ps_set (i := 5) sc_law_is_endless.nd rfl (Or.inr rfl) (pe_slice (sl_tupK K) (pv 4) po_none (po_some (pe_callB (cl_lenK K) (by rfl) (g_len D) (by decide +kernel) (pa_cons (pe_ix (ix_tupK K) (pv 0) pe_int (fun _ _ => rfl)) pa_nil)))))
      (pss_cons (ps_set (i := 6) sc_law_is_endless.nd rfl (Or.inl rfl) (pe_lst pa_nil))
      (pss_cons (ps_for PassesOwn.never rfl (pi_tupK K (pe_ix (ix_tupK K) (pe_ix (ix_listK K) (pv 1) (pv 3) (fun _ _ => rfl)) pe_int (fun _ _ => rfl))) (pg_name (i := 7) sc_law_is_endless.nd rfl (Or.inr rfl)) (pss_one (ps_expr (pe_bmK K PySem.F.plainAttrs_list PySem.F.slot_list_extend PySem.F.type_list_extend mt_extend (pv 6) (pa_cons (pe_lc (own := [("_law_answer", 8)]) (g := gName 8) (by rfl) sc_law_is_endless.nd (pi_tupK K (pe_ix (ix_tupK K) (pv 7) pe_int (fun _ _ => rfl))) (blkOk_by (N := ["_law_book_here", "_law_nodes", "_law_play", "_law_node", "_law_setting", "_law_foe", "_law_some", "_law_move", "_law_answer"]) (sc := defScope s_law_is_endless) (by decide +kernel)) (fun _ _ _ _ _ => (pg_name (i := 8) sc_law_is_endless.nd rfl (Or.inl rfl))) (fun _ _ _ _ _ => (pts_one (PW.pt (pw_and (pt_cmpR (op_eqDK K (hu64 hr)) (pe_ix (ix_tupK K) (pv 7) pe_int (fun _ _ => rfl)) (pv 5) (nomark _)) (pw_and1 (pt_cmpR (op_eqDK K (hu64 hr)) (pe_ix (ix_tupK K) (pv 8) pe_int (fun _ _ => rfl)) (pe_slice (sl_tupK K) (pv 4) (po_some (pe_callB (cl_lenK K) (by rfl) (g_len D) (by decide +kernel) (pa_cons (pe_ix (ix_tupK K) (pv 0) pe_int (fun _ _ => rfl)) pa_nil))) po_none) (nomark _))))))) (fun _ _ _ _ _ => (pv 8))) pa_nil)))))
      (pss_one (ps_set (i := 3) sc_law_is_endless.nd rfl (Or.inl rfl) (pe_ix (ix_tupK K) (pe_ix (ix_listK K) (pv 6) pe_int (fun _ _ => rfl)) pe_int (fun _ _ => rfl))))))))
      (pss_one (ps_ret (pe_cmpR (op_neDK K (hu64 hr)) (pe_ix (ix_tupK K) (pe_ix (ix_listK K) (pv 1) (pv 3) (fun _ _ => rfl)) pe_int (fun _ _ => rfl)) (pe_tup pa_nil) (nomark _))))))), ?_⟩
  walk_at "ga"
  refine forL (SqL.of hpl) (fun i σ' H' => ∃ (z4 z5 z6 z7 z8 : Option V) (m : Nat), σ' = [some (.ref c), some (.ref nl), some (.ref pl), some (.int (m : Nat)), z4, z5, z6, z7, z8] ∧ Same H H' ∧ NPath b (p.take i) m)
    ⟨_, _, _, _, _, 0, rfl, Same.refl H, .nil⟩ (fun i σ' H' _ h => ?_) (fun i x σ' H1 hx h => ?_) (fun σ' H1 h => ?_)
  · obtain ⟨_, _, _, _, _, _, _, e1, _⟩ := h
    exact e1.seq (SqL.of hpl)
  · obtain ⟨z4, z5, z6, z7, z8, m, rfl, e1, hm⟩ := h
    have hi : i < p.length := by have := (List.getElem?_eq_some_iff.mp hx).1; omega
    obtain ⟨m', a, r, st, q1, q2, q3, q4⟩ := hpath.pre i hi
    have hmm := NPath.inj hm q1 rfl
    subst hmm
    obtain ⟨d, hd1, hx2⟩ := hpd.at hx
    rw [List.getElem?_map, q2] at hd1
    cases hd1
    obtain ⟨cs, rfl, hcs⟩ := (td_same e1 hx2).encB_inv
    have hml := hm.lt hb
    have hng : (rowM b)[m]? = some ((rowM b)[m]'hml) := List.getElem?_eq_getElem hml
    obtain ⟨un, hun, hund⟩ := hnd.get (i := m) (d := nodeD b (rowM b) ((rowM b)[m]'hml)) (by rw [List.getElem?_map, hng]; rfl)
    rw [nodeD_eq hng] at hund
    obtain ⟨cn, n1, n2, rfl, hTn, _, q6⟩ := hund.t2
    obtain ⟨cmv, ymv, rfl, hTmv, hsmv⟩ := q6.tup_inv
    have hyl : ymv.length = (movesN b m).length := by rw [hsmv.length, List.length_map]
    have hm4 := movesN_len hb m
    have hstl := hlen st (List.mem_of_getElem? q2)
    have hT' := sqt_same e1 hT
    have hT1' := sqt_same e1 hT1
    walk_at "ga"
    rw [List.length_map]
    refine l_slTN hcs fun cf H2 e2 hcf => ?_
    rw [cut_take, ← List.map_take] at hcf
    walk_at "ga"
    refine l_mkL0 fun so H3 e3 hso0 hso => ?_
    have e13 := e1.trans (e2.trans e3)
    walk_at "ga"
    refine l_ixL (SqL.of (e13 _ _ hnl)) (atI_nat hun) ?_
    have hTn3 := sqt_same e13 hTn
    have hTmv3 := sqt_same e13 hTmv
    have hcf3 := sqt_same e3 hcf
    have hcs3 := sqt_same (e2.trans e3) hcs
    walk_at "ga"
    refine forT hTmv3 (fun j σ' H' => ∃ (z7 z8 : Option V), σ' = [some (.ref c), some (.ref nl), some (.ref pl), some (.int (m : Nat)), some (.ref cs), some (.ref cf), some (.ref so), z7, z8] ∧ SameBut so H3 H' ∧ ∃ us, H' so = some (.lst us) ∧
        TDs K H' us ((((movesN b m).take j).flatMap fun mv => mv.2.filter fun a => decide (mv.1 = st.take b.foe.length ∧ a.1 = st.drop b.foe.length)).map encAnsN) ∧ us.length ≤ 4 * j)
      ⟨_, _, rfl, SameBut.refl so H3, [], hso, .nil, Nat.le_refl _⟩ (fun j σ' H' _ h => ?_) (fun j x σ' H4 hx h => ?_) (fun σ' H4 h => ?_)
    · obtain ⟨_, _, _, e4, _⟩ := h
      exact e4.tup hso _ _ hTmv3
    · obtain ⟨z7, z8, rfl, e4, us, hus, hud, hul⟩ := h
      obtain ⟨d, hd1, hx3⟩ := hsmv.at hx
      rw [List.getElem?_map] at hd1
      obtain ⟨mv, hmv, rfl⟩ := Option.map_eq_some_iff.mp hd1
      have hj4 : j < 4 := by have := (List.getElem?_eq_some_iff.mp hmv).1; omega
      have t4 : TupX K H3 H4 := e4.tup hso
      have zso : H so = none := (e1.trans e2).free hso0
      have s4 : Same H H4 := e4.same e13 zso
      obtain ⟨cx, f1, f2, rfl, hTx, hf1, hf2⟩ := (td_same s4 hx3).t2
      obtain ⟨cg, rfl, hcg⟩ := hf1.encB_inv
      obtain ⟨cas, yas, rfl, hTas, hsas⟩ := hf2.tup_inv
      have hfew := movesN_few hb (List.mem_of_getElem? hmv)
      have hyal : yas.length = mv.2.length := by rw [hsas.length, List.length_map]
      walk_at "ga"
      refine ⟨tyv_list (SqL.of hus), ?_⟩
      walk_at "ga"
      refine lcTP hTas (fun Dd q H' => Same H4 H' ∧ ∃ ts, H' Dd = some (.lst ts) ∧ TDs K H' ts (((mv.2.take q).filter fun a => decide (mv.1 = st.take b.foe.length ∧ a.1 = st.drop b.foe.length)).map encAnsN)) (fun Dd hD => ⟨same_new hD, [], upd_same, .nil⟩) (fun Dd q H' h => sqt_same h.1 hTas) (fun Dd q x H' hD hx h => ?_) (fun Dd H5 hD h => ?_)
      · obtain ⟨e5, ts, hts, htd⟩ := h
        obtain ⟨d, hd1, hx2⟩ := hsas.at hx
        rw [List.getElem?_map] at hd1
        obtain ⟨an, han, rfl⟩ := Option.map_eq_some_iff.mp hd1
        obtain ⟨ce, g1, g2, g3, rfl, hTe, h1, h2, h3⟩ := (td_same e5 hx2).t3
        cases h2.int_inv
        cases h3.int_inv
        obtain ⟨cb, rfl, hcb⟩ := h1.encB_inv
        have s5 := s4.trans e5
        have hT5 := sqt_same s5 hT
        have hT15 := sqt_same s5 hT1
        have hTx5 := sqt_same e5 hTx
        have hcg5 := sqt_same e5 hcg
        have hcf5 := sqt_same e5 (t4 _ _ hcf3)
        have hcs5 := sqt_same e5 (t4 _ _ hcs3)
        have htl : ts.length ≤ 4 := by
          rw [htd.length, List.length_map]
          refine Nat.le_trans (List.length_filter_le _ _) ?_
          rw [List.length_take]
          omega
        have hstep : (mv.2.take (q + 1)).filter (fun a => decide (mv.1 = st.take b.foe.length ∧ a.1 = st.drop b.foe.length)) = (mv.2.take q).filter (fun a => decide (mv.1 = st.take b.foe.length ∧ a.1 = st.drop b.foe.length)) ++ (if mv.1 = st.take b.foe.length ∧ an.1 = st.drop b.foe.length then [an] else []) := by
          rw [take_get han, List.filter_append, List.filter_cons, List.filter_nil]
          by_cases q : mv.1 = st.take b.foe.length ∧ an.1 = st.drop b.foe.length
          · rw [if_pos (decide_eq_true q), if_pos q]
          · rw [if_neg (by rw [decide_eq_false q]; exact Bool.false_ne_true), if_neg q]
        walk_at "go"
        refine ⟨rfl, ?_⟩
        walk_at "ga"
        refine l_eqD (td_encB hcg5).dp (td_encB hcf5).dp (encB_shaped _) (encB_shaped _) ?_
        walk_at "go"
        rw [show PyData.eqv (encB mv.1) (encB (st.take b.foe.length)) = decide (mv.1 = st.take b.foe.length) from bool_iff (encB_eqv _ _)]
        refine l_i2 (fun hc => ?_) (fun hc => ?_)
        · have hc := of_decide_eq_true hc
          walk_at "ga"
          rw [List.length_map]
          refine l_slTN hcs5 fun cd H6 e6 hcd => ?_
          rw [cut_drop _ (by rw [List.length_map, hstl]; unfold Book.names; rw [List.length_append]; omega), ← List.map_drop] at hcd
          refine l_eqD (td_encB (sqt_same e6 hcb)).dp (td_encB hcd).dp (encB_shaped _) (encB_shaped _) ?_
          walk_at "go"
          rw [show PyData.eqv (encB an.1) (encB (st.drop b.foe.length)) = decide (an.1 = st.drop b.foe.length) from bool_iff (encB_eqv _ _)]
          have hts6 := e6 _ _ hts
          refine l_i2 (fun hc2 => ?_) (fun hc2 => ?_)
          · have hc2 := of_decide_eq_true hc2
            rw [if_pos ⟨hc, hc2⟩] at hstep
            walk_at "ga"
            refine ⟨ts, hts6, szl (by omega), same_mut (e5.trans e6) hD, _, upd_same, ?_⟩
            rw [hstep, List.map_append]
            exact (tds_lst hts6 (tds_same e6 htd)).append (.one (td_lst hts6 (td_same (e5.trans e6) hx2)))
          · have hc2 := of_decide_eq_false hc2
            rw [if_neg (fun z => hc2 z.2), List.append_nil] at hstep
            refine ⟨e5.trans e6, ts, hts6, ?_⟩
            rw [hstep]
            exact tds_same e6 htd
        · have hc := of_decide_eq_false hc
          rw [if_neg (fun z => hc z.1), List.append_nil] at hstep
          walk_at "ga"
          refine ⟨e5, ts, hts, ?_⟩
          rw [hstep]
          exact htd
      obtain ⟨e5, ts, hts, htd⟩ := h
      rw [hyal, List.take_length] at htd
      have hus5 := e5 _ _ hus
      have htl : ts.length ≤ 4 := by
        rw [htd.length, List.length_map]
        exact Nat.le_trans (List.length_filter_le _ _) hfew
      walk_at "ga"
      refine l_extN hus5 hts (sz (by omega)) fun H6 e6 hm6 => ?_
      have t6 : TupX K H5 H6 := e6.tup hus5
      refine ⟨_, _, rfl, e4.trans ((SameBut.of_same e5).trans e6), _, hm6, ?_, by rw [List.length_append]; omega⟩
      rw [take_get hmv, List.flatMap_append, List.map_append]
      refine ((tds_same e5 hud).mono t6).append ?_
      rw [List.flatMap_cons, List.flatMap_nil, List.append_nil]
      exact htd.mono t6
    · obtain ⟨z7, z8, rfl, e4, us, hus, hud, hul⟩ := h
      rw [hyl, List.take_length] at hud
      have hud : TDs K H4 us ((somesN b m st).map encAnsN) := hud
      rw [q3, List.map_cons] at hud
      obtain ⟨u0, us4, rfl, hu0, hus4d⟩ := hud.cons_inv
      obtain ⟨ca0, k1, k2, k3, rfl, hTa0, hk1, hk2, hk3⟩ := hu0.t3
      cases hk3.int_inv
      have zso : H so = none := (e1.trans e2).free hso0
      walk_at "ga"
      refine l_ixL (SqL.of hus) atI_zero ?_
      walk_at "ga"
      exact ⟨_, _, _, _, _, a.2.2, rfl, e4.same e13 zso, q4⟩
  · obtain ⟨z4, z5, z6, z7, z8, m, rfl, e1, hm⟩ := h
    rw [hpl', List.take_length] at hm
    have := NPath.inj hm hpath rfl
    subst this
    have hml := hm.lt hb
    have hng : (rowM b)[m]? = some ((rowM b)[m]'hml) := List.getElem?_eq_getElem hml
    obtain ⟨un, hun, hund⟩ := hnd.get (i := m) (d := nodeD b (rowM b) ((rowM b)[m]'hml)) (by rw [List.getElem?_map, hng]; rfl)
    rw [nodeD_eq hng, hend] at hund
    obtain ⟨cn, n1, n2, rfl, hTn, _, q6⟩ := hund.t2
    obtain ⟨cmv, ymv, rfl, hTmv, hsmv⟩ := id q6.tup_inv
    walk_at "ga"
    refine l_ixL (SqL.of (e1 _ _ hnl)) (atI_nat hun) ?_
    have hTn3 := sqt_same e1 hTn
    walk_at "ga"
    refine l_mkT (Nat.zero_le _) fun c5 H5 e5 hc50 hc5 => ?_
    refine l_neD (td_same (e1.trans e5) q6).dp (TD.tup (SqT.of hc5) .nil).dp (by decide +kernel) (by decide +kernel) ?_
    rw [List.map_nil, eqv_tup, eqvA_nil]
    exact k H5 (e1.trans e5)
end
/-! ### what the memory tells -/
def memAt (b : Book) (play : Play) : Nat → List Bool
  | 0 => firstM b
  | t + 1 => behindM b (memAt b play t) (play.getD t [])
theorem getD_map_ix {ps : List Say} {f : Say → Bool} {s : Say} (h : s ∈ ps) : (ps.map f).getD (ixOf s ps) false = f s := by
  rw [List.getD_eq_getElem?_getD, List.getElem?_map, ixOf_get h]
  rfl
theorem rowF_0 (b : Bool) (stp : Bool → Nat → Bool) : rowF b stp 0 = stp b 0 := rfl
theorem rowF_s (b : Bool) (stp : Bool → Nat → Bool) (t : Nat) : rowF b stp (t + 1) = stp (rowF b stp t) (t + 1) := rfl
theorem tat_holds0 (b : Book) (play : Play) : ∀ s : Say, s.inP b.pieces → holdsM b.names b.pieces (firstM b) (play.getD 0 []) s = tat b.names play s 0
  | .lamp n, _ => rfl
  | .cst c, _ => rfl
  | .one .nt s, h => by
    show (!holdsM _ _ _ _ s) = !tat _ _ s 0
    rw [tat_holds0 b play s h.2]
  | .one .bf s, h => by
    show (firstM b).getD (ixOf (.one .bf s) b.pieces) false = false
    unfold firstM
    rw [getD_map_ix (h.1 rfl)]
    exact decide_eq_false (by show O1.str .bf ≠ _; decide +kernel)
  | .one .on s, h => by
    show (holdsM _ _ _ _ s || (firstM b).getD (ixOf (.one .on s) b.pieces) false) = (tat _ _ s 0 || false)
    rw [tat_holds0 b play s h.2]
    unfold firstM
    rw [getD_map_ix (h.1 rfl)]
    rw [decide_eq_false (show (Say.one .on s).head ≠ ("sofar" : Str) by first | (show O1.str .on ≠ _; decide +kernel) | (show O2.str .si ≠ _; decide +kernel))]
  | .one .sf s, h => by
    show (holdsM _ _ _ _ s && (firstM b).getD (ixOf (.one .sf s) b.pieces) false) = (tat _ _ s 0 && true)
    rw [tat_holds0 b play s h.2]
    unfold firstM
    rw [getD_map_ix (h.1 rfl)]
    rw [decide_eq_true (show (Say.one .sf s).head = ("sofar" : Str) by (show O1.str .sf = _; decide +kernel))]
  | .two .si s u, h => by
    show (holdsM _ _ _ _ u || (holdsM _ _ _ _ s && (firstM b).getD (ixOf (.two .si s u) b.pieces) false)) = (tat _ _ u 0 || (tat _ _ s 0 && false))
    rw [tat_holds0 b play s h.2.1, tat_holds0 b play u h.2.2]
    unfold firstM
    rw [getD_map_ix (h.1 rfl)]
    rw [decide_eq_false (show (Say.two .si s u).head ≠ ("sofar" : Str) by first | (show O1.str .on ≠ _; decide +kernel) | (show O2.str .si ≠ _; decide +kernel))]
  | .two .an s u, h => by
    show O2.jn .an _ _ = O2.jn .an _ _
    rw [tat_holds0 b play s h.2.1, tat_holds0 b play u h.2.2]
  | .two .or s u, h => by
    show O2.jn .or _ _ = O2.jn .or _ _
    rw [tat_holds0 b play s h.2.1, tat_holds0 b play u h.2.2]
  | .two .th s u, h => by
    show O2.jn .th _ _ = O2.jn .th _ _
    rw [tat_holds0 b play s h.2.1, tat_holds0 b play u h.2.2]
  | .two .sm s u, h => by
    show O2.jn .sm _ _ = O2.jn .sm _ _
    rw [tat_holds0 b play s h.2.1, tat_holds0 b play u h.2.2]
theorem tat_holdsS (b : Book) (play : Play) (t : Nat) (ih : ∀ s : Say, s.inP b.pieces → holdsM b.names b.pieces (memAt b play t) (play.getD t []) s = tat b.names play s t) :
    ∀ s : Say, s.inP b.pieces → holdsM b.names b.pieces (memAt b play (t + 1)) (play.getD (t + 1) []) s = tat b.names play s (t + 1)
  | .lamp n, _ => rfl
  | .cst c, _ => rfl
  | .one .nt s, h => by
    show (!holdsM _ _ _ _ s) = !tat _ _ s (t + 1)
    rw [tat_holdsS b play t ih s h.2]
  | .one .bf s, h => by
    show (behindM b (memAt b play t) (play.getD t [])).getD (ixOf (.one .bf s) b.pieces) false = tat _ _ s t
    unfold behindM
    rw [getD_map_ix (f := fun p => holdsM b.names b.pieces (memAt b play t) (play.getD t []) p.inner) (h.1 rfl)]
    exact ih s h.2
  | .one .on s, h => by
    show (holdsM _ _ _ _ s || (behindM b (memAt b play t) (play.getD t [])).getD (ixOf (.one .on s) b.pieces) false) = (tat _ _ s (t + 1) || tat _ _ (.one .on s) t)
    rw [tat_holdsS b play t ih s h.2]
    unfold behindM
    rw [getD_map_ix (f := fun p => holdsM b.names b.pieces (memAt b play t) (play.getD t []) p.inner) (h.1 rfl)]
    rw [show (Say.one .on s).inner = .one .on s from rfl, ih (.one .on s) h]
  | .one .sf s, h => by
    show (holdsM _ _ _ _ s && (behindM b (memAt b play t) (play.getD t [])).getD (ixOf (.one .sf s) b.pieces) false) = (tat _ _ s (t + 1) && tat _ _ (.one .sf s) t)
    rw [tat_holdsS b play t ih s h.2]
    unfold behindM
    rw [getD_map_ix (f := fun p => holdsM b.names b.pieces (memAt b play t) (play.getD t []) p.inner) (h.1 rfl)]
    rw [show (Say.one .sf s).inner = .one .sf s from rfl, ih (.one .sf s) h]
  | .two .si s u, h => by
    show (holdsM _ _ _ _ u || (holdsM _ _ _ _ s && (behindM b (memAt b play t) (play.getD t [])).getD (ixOf (.two .si s u) b.pieces) false)) = (tat _ _ u (t + 1) || (tat _ _ s (t + 1) && tat _ _ (.two .si s u) t))
    rw [tat_holdsS b play t ih s h.2.1, tat_holdsS b play t ih u h.2.2]
    unfold behindM
    rw [getD_map_ix (f := fun p => holdsM b.names b.pieces (memAt b play t) (play.getD t []) p.inner) (h.1 rfl)]
    rw [show (Say.two .si s u).inner = .two .si s u from rfl, ih (.two .si s u) h]
  | .two .an s u, h => by
    show O2.jn .an _ _ = O2.jn .an _ _
    rw [tat_holdsS b play t ih s h.2.1, tat_holdsS b play t ih u h.2.2]
  | .two .or s u, h => by
    show O2.jn .or _ _ = O2.jn .or _ _
    rw [tat_holdsS b play t ih s h.2.1, tat_holdsS b play t ih u h.2.2]
  | .two .th s u, h => by
    show O2.jn .th _ _ = O2.jn .th _ _
    rw [tat_holdsS b play t ih s h.2.1, tat_holdsS b play t ih u h.2.2]
  | .two .sm s u, h => by
    show O2.jn .sm _ _ = O2.jn .sm _ _
    rw [tat_holdsS b play t ih s h.2.1, tat_holdsS b play t ih u h.2.2]
theorem tat_holds (b : Book) (play : Play) : ∀ (t : Nat) (s : Say), s.inP b.pieces → holdsM b.names b.pieces (memAt b play t) (play.getD t []) s = tat b.names play s t
  | 0 => tat_holds0 b play
  | t + 1 => tat_holdsS b play t (tat_holds b play t)
/-- a promise does not see the friend's lamps -/
theorem free_holds {b : Book} {mem foe : List Bool} (hf : foe.length = b.foe.length) {f1 f2 : List Bool} : ∀ {s : Say}, s.ov b.names → s.free b.fr = false → holdsM b.names b.pieces mem (foe ++ f1) s = holdsM b.names b.pieces mem (foe ++ f2) s
  | .lamp n, ho, h => by
    have hn : n ∉ b.fr := of_decide_eq_false h
    have hm : n ∈ b.foe := (List.mem_append.mp ho).resolve_right hn
    show (foe ++ f1).getD (ixOf n b.names) false = (foe ++ f2).getD (ixOf n b.names) false
    unfold Book.names
    rw [ixOf_append hm]
    have hl : ixOf n b.foe < foe.length := by rw [hf]; exact ixOf_lt hm
    rw [List.getD_eq_getElem?_getD, List.getD_eq_getElem?_getD, List.getElem?_append_left hl, List.getElem?_append_left hl]
  | .cst c, _, _ => rfl
  | .one .nt s, ho, h => by
    show (!holdsM _ _ _ _ s) = !holdsM _ _ _ _ s
    rw [free_holds hf (s := s) ho h]
  | .one .bf s, _, _ => rfl
  | .one .on s, ho, h => by
    show (holdsM _ _ _ _ s || _) = (holdsM _ _ _ _ s || _)
    rw [free_holds hf (s := s) ho h]
  | .one .sf s, ho, h => by
    show (holdsM _ _ _ _ s && _) = (holdsM _ _ _ _ s && _)
    rw [free_holds hf (s := s) ho h]
  | .two o s u, ho, h => by
    have h1 : s.free b.fr = false ∧ u.free b.fr = false := by
      have h : (s.free b.fr || u.free b.fr) = false := h
      rwa [Bool.or_eq_false_iff] at h
    have q1 := free_holds hf (s := s) (mem := mem) (f1 := f1) (f2 := f2) ho.1 h1.1
    have q2 := free_holds hf (s := u) (mem := mem) (f1 := f1) (f2 := f2) ho.2 h1.2
    cases o with
    | si =>
      show (holdsM _ _ _ _ u || (holdsM _ _ _ _ s && _)) = (holdsM _ _ _ _ u || (holdsM _ _ _ _ s && _))
      rw [q1, q2]
    | an => show O2.jn .an _ _ = O2.jn .an _ _; rw [q1, q2]
    | or => show O2.jn .or _ _ = O2.jn .or _ _; rw [q1, q2]
    | th => show O2.jn .th _ _ = O2.jn .th _ _; rw [q1, q2]
    | sm => show O2.jn .sm _ _ = O2.jn .sm _ _; rw [q1, q2]
theorem keeps_free {b : Book} (hb : b.Ok) {mem foe f1 f2 : List Bool} (hf : foe.length = b.foe.length) : keepsM b b.proms mem (foe ++ f1) = keepsM b b.proms mem (foe ++ f2) := by
  unfold keepsM
  rw [Bool.eq_iff_iff, List.all_eq_true, List.all_eq_true]
  have key : ∀ s ∈ b.proms, holdsM b.names b.pieces mem (foe ++ f1) s = holdsM b.names b.pieces mem (foe ++ f2) s := fun s hs => free_holds hf (hb.ov s (Book.proms_says s hs)).1 (hb.nofree s hs)
  exact ⟨fun h s hs => by rw [← key s hs]; exact h s hs, fun h s hs => by rw [key s hs]; exact h s hs⟩
/-! ### a play along the product -/
theorem edge_sem {b : Book} (hb : b.Ok) {M : Mach} (hM : MOk b M) {ps : List (Nat × Nat)} {p : Nat × Nat} {i : Nat} {mv : MvN} {e : Int × Nat} {st mem : List Bool} (hs : p.1 < M.length) (hn : (rowM b)[p.2]? = some mem) (hmv : (movesN b p.2)[i]? = some mv) (h : EdgeOf b M ps p mv e st) :
    st.length = b.names.length ∧ keepsM b b.proms mem st = true ∧ keepsM b b.musts mem st = true ∧ e.1 = lossM b mem st ∧ (∃ q, ps[e.2]? = some q ∧ (rowM b)[q.2]? = some (behindM b mem st) ∧ stepM b M p.1 (st.take b.foe.length) = (st.drop b.foe.length, q.1)) ∧ st.take b.foe.length ++ st.drop b.foe.length = st := by
  have hml : mem ∈ rowM b := List.mem_of_getElem? hn
  have hnl := (List.getElem?_eq_some_iff.mp hn).1
  have hmm := List.mem_of_getElem? hmv
  have hl := (movesN_ok hb hnl hmm).1
  obtain ⟨row, r1, r2, r3, r4⟩ := stepM_mem hM hs hl
  obtain ⟨a, h1, h2, h3, h4⟩ := h
  obtain ⟨ham, hae⟩ := find_mem h1
  have hae := of_decide_eq_true hae
  have e1 : st.take b.foe.length = mv.1 := by rw [h3, ← hl, List.take_left]
  have e2 : st.drop b.foe.length = (stepM b M p.1 mv.1).1 := by rw [h3, ← hl, List.drop_left]
  have hstl : st.length = b.names.length := by rw [h3, List.length_append, hl, r3]; unfold Book.names; rw [List.length_append]
  unfold movesN at hmm
  rw [List.getD_eq_getElem?_getD, hn, Option.getD_some] at hmm
  obtain ⟨mv0, hmv0, rfl⟩ := List.mem_map.mp hmm
  have hcl := rowM_closed hb hml
  obtain ⟨e0, he0, rfl⟩ := List.mem_map.mp ham
  have hin : e0.2.2 ∈ rowM b := hcl _ (List.mem_flatMap.mpr ⟨mv0, hmv0, List.mem_map.mpr ⟨e0, he0, rfl⟩⟩)
  unfold movesM at hmv0
  obtain ⟨foe, hfoe, rfl⟩ := List.mem_map.mp hmv0
  obtain ⟨hfoe1, hfoe2⟩ := List.mem_filter.mp hfoe
  have he0 : e0 ∈ answersM b mem foe := he0
  unfold answersM at he0
  obtain ⟨fr, hfr, rfl⟩ := List.mem_map.mp he0
  obtain ⟨hfr1, hfr2⟩ := List.mem_filter.mp hfr
  have hae : fr = (stepM b M p.1 foe).1 := hae
  have h3 : st = foe ++ fr := by rw [h3, hae]
  refine ⟨hstl, ?_, ?_, ?_, ⟨_, h4, ?_, ?_⟩, List.take_append_drop _ _⟩
  · rw [h3, keeps_free hb hl (f2 := List.replicate b.fr.length false)]
    exact hfoe2
  · rw [h3]; exact hfr2
  · rw [h3, h2]; rfl
  · show (rowM b)[ixOf (behindM b mem (foe ++ fr)) (rowM b)]? = _
    rw [h3]
    exact ixOf_get hin
  · rw [e1, e2]
structure Good (b : Book) (M : Mach) (p : Play) (q : Nat × Nat) (x : Int) : Prop where
  run : runAux b M 0 (p.map fun st => st.take b.foe.length) = p
  std : standAfter b M 0 (p.map fun st => st.take b.foe.length) = q.1
  mem : (rowM b)[q.2]? = some (memAt b p p.length)
  kp : ∀ t, t < p.length → keepsM b b.proms (memAt b p t) (p.getD t []) = true ∧ keepsM b b.musts (memAt b p t) (p.getD t []) = true
  ls : ((List.range p.length).map fun t => lossM b (memAt b p t) (p.getD t [])).sum = x
  len : ∀ st ∈ p, st.length = b.names.length
  path : NPath b p q.2
theorem memAt_app (b : Book) (p q : Play) : ∀ t, t ≤ p.length → memAt b (p ++ q) t = memAt b p t
  | 0, _ => rfl
  | t + 1, h => by
    show behindM b (memAt b (p ++ q) t) ((p ++ q).getD t []) = behindM b (memAt b p t) (p.getD t [])
    rw [memAt_app b p q t (by omega), List.getD_eq_getElem?_getD, List.getD_eq_getElem?_getD, List.getElem?_append_left (by omega)]
theorem getD_app_l {p q : Play} {t : Nat} (h : t < p.length) : (p ++ q).getD t [] = p.getD t [] := by
  rw [List.getD_eq_getElem?_getD, List.getD_eq_getElem?_getD, List.getElem?_append_left h]
theorem getD_app_last {p : Play} {st : List Bool} : (p ++ [st]).getD p.length [] = st := by
  rw [List.getD_eq_getElem?_getD, List.getElem?_append_right (Nat.le_refl _), Nat.sub_self]
  rfl
theorem Good.nil {b : Book} {M : Mach} : Good b M [] (0, 0) 0 := ⟨rfl, rfl, rowM_0, fun t h => absurd h (Nat.not_lt_zero _), rfl, (fun st h => nomatch h), .nil⟩
theorem Good.snoc {b : Book} (hb : b.Ok) {M : Mach} (hM : MOk b M) {ps : List (Nat × Nat)} {p : Play} {q : Nat × Nat} {x : Int} {i : Nat} {mv : MvN} {e : Int × Nat} {st : List Bool} (h : Good b M p q x) (hs : q.1 < M.length) (hmv : (movesN b q.2)[i]? = some mv) (he : EdgeOf b M ps q mv e st) :
    ∃ q', ps[e.2]? = some q' ∧ Good b M (p ++ [st]) q' (x + e.1) := by
  obtain ⟨g1, g2, g3, g4, ⟨q', g5, g6, g7⟩, g8⟩ := edge_sem hb hM hs h.mem hmv he
  have hnl := (List.getElem?_eq_some_iff.mp h.mem).1
  have hml := (movesN_ok hb hnl (List.mem_of_getElem? hmv)).1
  have hsl := (stepM_mem hM hs hml).choose_spec.2.2.1
  obtain ⟨a, r, s1, s2, s3⟩ := somes_edge hb hnl hmv he hsl
  have hlen : (p ++ [st]).length = p.length + 1 := List.length_append
  refine ⟨q', g5, ?_, ?_, ?_, fun t ht => ?_, ?_, fun s hs => ?_, ?_⟩
  · rw [List.map_append]
    show runAux b M 0 (_ ++ [_]) = _
    rw [runAux_snoc, h.run, h.std, g7, g8]
  · rw [List.map_append]
    show standAfter b M 0 (_ ++ [_]) = _
    rw [standAfter_snoc, h.std, g7]
  · rw [hlen]
    show _ = some (behindM b (memAt b (p ++ [st]) p.length) ((p ++ [st]).getD p.length []))
    rw [memAt_app b p [st] p.length (Nat.le_refl _), getD_app_last]
    exact g6
  · rw [hlen] at ht
    by_cases hl : t < p.length
    · rw [memAt_app b p [st] t (by omega), getD_app_l hl]
      exact h.kp t hl
    · have e : t = p.length := by omega
      subst e
      rw [memAt_app b p [st] p.length (Nat.le_refl _), getD_app_last]
      exact ⟨g2, g3⟩
  · rw [hlen, List.range_succ, List.map_append, List.sum_append]
    have e1 : (List.range p.length).map (fun t => lossM b (memAt b (p ++ [st]) t) ((p ++ [st]).getD t [])) = (List.range p.length).map (fun t => lossM b (memAt b p t) (p.getD t [])) := List.map_congr_left fun t ht => by
      have ht := List.mem_range.mp ht
      rw [memAt_app b p [st] t (by omega), getD_app_l ht]
    rw [e1, h.ls]
    show x + (lossM b (memAt b (p ++ [st]) p.length) ((p ++ [st]).getD p.length []) + 0) = _
    rw [memAt_app b p [st] p.length (Nat.le_refl _), getD_app_last, g4]
    omega
  · rcases List.mem_append.mp hs with hs | hs
    · exact h.len s hs
    · rw [List.mem_singleton.mp hs]; exact g1
  · rw [g5] at s3
    cases s3
    exact h.path.snoc s1
/-- a labelled way of the product is a good play -/
theorem RWay.good {b : Book} (hb : b.Ok) {M : Mach} (hM : MOk b M) {s : Sr} {G : Gr} {S : List Play} (hr : ResOk b M (s, G, S)) {p : Play} {v : Nat} {x : Int} (h : RWay G S 0 p v x) : ∃ q, s.pairs[v]? = some q ∧ Good b M p q x := by
  induction h with
  | nil => exact ⟨_, hr.sr.z, Good.nil⟩
  | @snoc p v x l t i st hw he hst ih =>
    obtain ⟨q, hq, hg⟩ := ih
    obtain ⟨q2, mv, st2, h1, h2, h3, h4⟩ := hr.edge he
    rw [hq] at h1
    cases h1
    rw [hst] at h3
    cases h3
    obtain ⟨q', h5, h6⟩ := hg.snoc hb hM (hr.sr.rng q (List.mem_of_getElem? hq)).1 h2 h4
    exact ⟨q', h5, h6⟩
theorem RWay.app {G : Gr} {S : List Play} {u v : Nat} {p : Play} {x : Int} (h : RWay G S u p v x) : ∀ {q : Play} {z : Nat} {y : Int}, RWay G S v q z y → RWay G S u (p ++ q) z (x + y) := by
  intro q z y h2
  induction h2 with
  | nil => rw [List.append_nil, Int.add_zero]; exact h
  | snoc _ e1 e2 ih =>
    rw [← List.append_assoc, ← Int.add_assoc]
    exact ih.snoc e1 e2
/-! ### what the plays' own functions tell -/
theorem Good.tat {b : Book} (hb : b.Ok) {M : Mach} {p : Play} {q : Nat × Nat} {x : Int} (h : Good b M p q x) : ∀ s ∈ b.proms ++ b.musts, ∀ t, t < p.length → tat b.names p s t = true := by
  intro s hs t ht
  have hsay : s ∈ b.says := by
    unfold Book.says
    exact List.mem_append_left _ hs
  rw [← tat_holds b p t s (b.says_inP s hsay)]
  obtain ⟨k1, k2⟩ := h.kp t ht
  rcases List.mem_append.mp hs with hs | hs
  · exact List.all_eq_true.mp k1 s hs
  · exact List.all_eq_true.mp k2 s hs
theorem lossAt_M (b : Book) (p : Play) (t : Nat) : lossAt b.names p b.wishes t = lossM b (memAt b p t) (p.getD t []) := by
  unfold lossAt lossM
  congr 2
  refine List.filter_congr fun w hw => ?_
  rw [tat_holds b p t w.2 (b.says_inP w.2 (by
    unfold Book.says
    exact List.mem_append_right _ (List.mem_map.mpr ⟨w, hw, rfl⟩)))]
theorem Good.loss {b : Book} {M : Mach} {p : Play} {q : Nat × Nat} {x : Int} (h : Good b M p q x) : ((List.range p.length).map (lossAt b.names p b.wishes)).sum = x := by
  rw [← h.ls]
  congr 1
  exact List.map_congr_left fun t _ => lossAt_M b p t
theorem lossAt_app (b : Book) (p q : Play) {t : Nat} (ht : t < p.length) : lossAt b.names (p ++ q) b.wishes t = lossAt b.names p b.wishes t := by
  rw [lossAt_M, lossAt_M, memAt_app b p q t (by omega), getD_app_l ht]
/-! ### rings -/
def reps (r : Play) (k : Nat) : Play := (List.replicate k r).flatten
theorem reps_s (r : Play) (k : Nat) : reps r (k + 1) = r ++ reps r k := by
  unfold reps
  rw [List.replicate_succ, List.flatten_cons]
theorem reps_add (r : Play) (a : Nat) : ∀ c, reps r (a + c) = reps r a ++ reps r c := by
  induction a with
  | zero => intro c; rw [Nat.zero_add]; rfl
  | succ a ih => intro c; rw [show a + 1 + c = (a + c) + 1 by omega, reps_s, ih, reps_s, List.append_assoc]
theorem reps_len (r : Play) (k : Nat) : (reps r k).length = k * r.length := by
  induction k with
  | zero => rw [Nat.zero_mul]; rfl
  | succ k ih => rw [reps_s, List.length_append, ih, Nat.succ_mul]; omega
theorem RWay.reps {G : Gr} {S : List Play} {v : Nat} {r : Play} {y : Int} (h : RWay G S v r v y) : ∀ k, RWay G S v (reps r k) v (y * (k : Nat))
  | 0 => by
    show RWay G S v [] v (y * 0)
    rw [Int.mul_zero]
    exact .nil
  | k + 1 => by
    rw [reps_s, show y * ((k + 1 : Nat) : Int) = y + y * (k : Nat) by rw [show ((k + 1 : Nat) : Int) = 1 + (k : Nat) by omega, Int.mul_add, Int.mul_one]]
    exact h.app (RWay.reps h k)
/-- each time around the same is lost -/
theorem ring_loss {b : Book} (hb : b.Ok) {M : Mach} (hM : MOk b M) {s : Sr} {G : Gr} {S : List Play} (hr : ResOk b M (s, G, S)) {p r : Play} {v : Nat} {x y : Int} (hp : RWay G S 0 p v x) (hrr : RWay G S v r v y) {n t : Nat} (ht : t < n) :
    ((((List.range (p ++ reps r n).length).map (lossAt b.names (p ++ reps r n) b.wishes)).drop (p.length + t * r.length)).take r.length).sum = y := by
  have pre : ∀ k, k ≤ n → (((List.range (p ++ reps r n).length).map (lossAt b.names (p ++ reps r n) b.wishes)).take (p.length + k * r.length)).sum = x + y * (k : Nat) := fun k hk => by
    obtain ⟨q, _, hg⟩ := (hp.app (hrr.reps k)).good hb hM hr
    have hl := hg.loss
    have hlen : (p ++ reps r k).length = p.length + k * r.length := by rw [List.length_append, reps_len]
    have e : p ++ reps r n = (p ++ reps r k) ++ reps r (n - k) := by rw [List.append_assoc, ← reps_add, show k + (n - k) = n by omega]
    rw [← hl, e, ← List.map_take, ← hlen, List.take_range]
    have hm : min (p ++ reps r k).length ((p ++ reps r k) ++ reps r (n - k)).length = (p ++ reps r k).length := by rw [List.length_append (as := p ++ reps r k)]; omega
    rw [hm]
    congr 1
    exact List.map_congr_left fun u hu => lossAt_app b _ _ (List.mem_range.mp hu)
  have h1 := pre t (by omega)
  have h2 := pre (t + 1) (by omega)
  rw [show p.length + (t + 1) * r.length = (p.length + t * r.length) + r.length by rw [Nat.succ_mul]; omega, List.take_add, List.sum_append, h1] at h2
  rw [show ((t + 1 : Nat) : Int) = (t : Nat) + 1 by omega, Int.mul_add, Int.mul_one] at h2
  omega
section
variable {P : Program} {w : World} {K : PySem.W.Frag} {mg : Str → Option Value} {base : Heap}
theorem l_repL {H : Hp} {Q : VK} {a : Addr} {xs : List V} {k : Nat} (h : H a = some (.lst xs)) (hk : k ≤ 10) (hz : xs.length * k ≤ sizeLine) (q : ∀ p H', Same H H' → H p = none → H' p = some (.lst (List.replicate k xs).flatten) → Q (.ref p) H') : rRep (.ref a) (.int (k : Nat)) H Q := by
  refine ⟨a, _, xs, rfl, rfl, h, by omega, by omega, by rw [Int.toNat_natCast]; exact hz, fun p hp => ?_⟩
  rw [Int.toNat_natCast]
  exact q p _ (same_new hp) hp upd_same
theorem tds_reps {H : Hp} {ws : List V} {r : Play} (h : TDs K H ws (r.map encB)) : ∀ k, TDs K H (List.replicate k ws).flatten ((reps r k).map encB)
  | 0 => .nil
  | k + 1 => by
    rw [List.replicate_succ, List.flatten_cons, reps_s, List.map_append]
    exact h.append (tds_reps h k)
theorem play_eqv (p q : Play) : PyData.eqv (.list (p.map encB)) (.list (q.map encB)) = decide (p = q) := by
  rw [eqv_lst]
  exact bool_iff (eqvA_map encB_eqv p q)
def spRings (K : PySem.W.Frag) : Sp := fun vs H Q _ => ∃ (v u : V) (b : Book) (M : Mach) (up down : Int) (hl rl : Addr) (p r : Play) (q : Nat × Nat) (x : Int), vs = [v, u, .int up, .int down, .ref hl, .ref rl] ∧ TD K H v b.enc ∧ b.Ok ∧ TD K H u (encMach M) ∧ MOk b M ∧ PlAt K H hl p ∧ PlAt K H rl r ∧ p.length ≤ 1000 ∧ r.length ≤ 1000 ∧
  0 < down ∧ down < 1000000 ∧ Good b M (p ++ reps r 3) q x ∧ (∀ t, t < 3 → ((((List.range (p ++ reps r 3).length).map (lossAt b.names (p ++ reps r 3) b.wishes)).drop (p.length + t * r.length)).take r.length).sum * down = up * (r.length : Nat)) ∧ ∀ H', Same H H' → Q (.bl true) H'
theorem sc_law_rings : FnScope ["_law_book_here", "_law_machine_here", "_law_up", "_law_down", "_law_head", "_law_ring", "_law_sets", "_law_setting", "_law_play", "_law_lost", "_law_turn", "_law_first"] ["_law_book_here", "_law_machine_here", "_law_up", "_law_down", "_law_head", "_law_ring"] (defScope s_law_rings) := ⟨rfl, rfl, rfl, by decide +kernel, rfl, by decide +kernel, by decide +kernel⟩
theorem ok_rings (D : Hd K mg) : OkG P w K mg base "_law_rings" ["_law_book_here", "_law_machine_here", "_law_up", "_law_down", "_law_head", "_law_ring"] 16 (spRings K) := by
  have G_run := ok_run (P := P) (w := w) (base := base) D
  have G_first_breaks := ok_first_breaks (P := P) (w := w) (base := base) D
  have G_losses := ok_losses (P := P) (w := w) (base := base) D
  obtain ⟨fd, F⟩ := F_law_rings D
  refine ⟨g_law_rings D, F.kp, fd, F.ok sc_law_rings (fun vs H Q E h => ?_) (fun cdv A outer sS H vs Q E hr h => ?_), F.bindsN fun _ _ _ _ _ _ us hl => match us, hl with | [_, _, _, _, _, _], _ => rfl⟩
  · obtain ⟨v, u, b, M, up, down, hl, rl, p, r, q, x, rfl, _⟩ := h
    rfl
  obtain ⟨v, u, b, M, up, down, hl, rl, p, r, q, x, rfl, hv, hb, hu, hM, ⟨wp, hpl, hpd⟩, ⟨wr, hrl, hrd⟩, hp1, hr1, hd0, hd1, hg, hsum, k⟩ := h
  obtain ⟨c, x1, x2, x3, x4, x5, rfl, hT, g1, _⟩ := id hv.t5
  obtain ⟨c1, y1, rfl, hT1, hs1⟩ := g1.tup_inv
  cases hs1.strs_inv
  have hpw : wp.length = p.length := by rw [hpd.length, List.length_map]
  have hrw : wr.length = r.length := by rw [hrd.length, List.length_map]
  have hfl : (p ++ reps r 3).length = p.length + 3 * r.length := by rw [List.length_append, reps_len]
  have hf1 := hb.foe1
  have hf2 := hb.foe2
  have hr2 := hb.fr2
  have h3l : (List.replicate 3 wr).flatten.length = 3 * r.length := by
    rw [(tds_reps (K := K) hrd 3).length, List.length_map, reps_len]
  refine ⟨_, (PSs.nox (pss_cons (ps_setLc (i := 6) (own := [("_law_setting", 7)]) (g := gName 7) (tt := tYes) (by rfl) sc_law_rings.nd rfl rfl (sw_true rfl rfl rfl (by decide +kernel)) (pi_listK K (pe_op op_cat (pv 4) (pe_op op_rep (pv 5) pe_int))) (blkOk_by (N := ["_law_book_here", "_law_machine_here", "_law_up", "_law_down", "_law_head", "_law_ring", "_law_sets", "_law_setting", "_law_play", "_law_lost", "_law_turn", "_law_first"]) (sc := defScope s_law_rings) (by decide +kernel)) (fun _ _ _ _ _ => (pg_name (i := 7) sc_law_rings.nd rfl (Or.inl rfl))) (fun _ _ _ _ _ => pts_nil) (fun _ _ _ _ _ => (pe_slice (sl_tupK K) (pv 7) po_none (po_some (pe_callB (cl_lenK K) (by rfl) (g_len D) (by decide +kernel) (pa_cons (pe_ix (ix_tupK K) (pv 0) pe_int (fun _ _ => rfl)) pa_nil))))))
      (pss_cons (ps_set (i := 8) sc_law_rings.nd rfl (Or.inl rfl) (pe_cl G_run hr (pa_cons (pv 0) (pa_cons (pv 1) (pa_cons (pv 6) pa_nil)))))
      (pss_cons (ps_if (PW.pt (pw_or (pt_cmpR (op_neDK K (hu64 hr)) (pv 8) (pe_op op_cat (pv 4) (pe_op op_rep (pv 5) pe_int)) (nomark _)) (pw_or1 (pt_cmpR (op_neDK K (hu64 hr)) (pe_cl G_first_breaks hr (pa_cons (pv 0) (pa_cons (pv 8) pa_nil))) (pe_tup (pa_cons pe_non (pa_cons pe_non pa_nil))) (nomark _))))) (pss_one (ps_ret pe_bl)) pss_nil)
      (pss_cons (ps_set (i := 9) sc_law_rings.nd rfl (Or.inl rfl) (pe_cl G_losses hr (pa_cons (pv 0) (pa_cons (pv 8) pa_nil))))
      (pss_cons (ps_for PassesOwn.never rfl (pi_range1 (by rfl) (g_range D) (pa_cons pe_int pa_nil)) (pg_name (i := 10) sc_law_rings.nd rfl (Or.inl rfl)) (pss_cons (ps_set (i := 11) sc_law_rings.nd rfl (Or.inl rfl) (pe_op op_add (pe_callB (cl_lenK K) (by rfl) (g_len D) (by decide +kernel) (pa_cons (pv 4) pa_nil)) (pe_op op_mul (pv 10) (pe_callB (cl_lenK K) (by rfl) (g_len D) (by decide +kernel) (pa_cons (pv 5) pa_nil)))))
      (pss_one (ps_if (pt_cmpR op_ne (pe_op op_mul (pe_callB (cr_sumK K rfl) (by rfl) (g_sum D) (by decide +kernel) (pa_cons (pe_slice (sl_listK K) (pv 9) (po_some (pv 11)) (po_some (pe_op op_add (pv 11) (pe_callB (cl_lenK K) (by rfl) (g_len D) (by decide +kernel) (pa_cons (pv 5) pa_nil))))) pa_nil)) (pv 3)) (pe_op op_mul (pv 2) (pe_callB (cl_lenK K) (by rfl) (g_len D) (by decide +kernel) (pa_cons (pv 5) pa_nil))) (nomark _)) (pss_one (ps_ret pe_bl)) pss_nil))))
      (pss_one (ps_ret pe_bl)))))))), ?_⟩
  walk_at "ga"
  refine l_repL (k := 3) hrl (by decide) (sz (by omega)) fun l1 H1 e1 hl10 hl1 => ?_
  refine l_catN (e1 _ _ hpl) hl1 (sz (by omega)) fun l2 H2 e2 hl20 hl2 => ?_
  have e02 := e1.trans e2
  have hd2 : TDs K H2 (wp ++ (List.replicate 3 wr).flatten) ((p ++ reps r 3).map encB) := by
    rw [List.map_append]
    exact tds_same e02 (hpd.append (tds_reps hrd 3))
  refine lcLP (SqL.of hl2) (fun Dd i H' => Same H2 H' ∧ ∃ us, H' Dd = some (.lst us) ∧ TDs K H' us ((((p ++ reps r 3).take i).map fun st => st.take b.foe.length).map encB)) (fun Dd hD => ⟨same_new hD, [], upd_same, .nil⟩) (fun Dd i H' h => h.1.seq (SqL.of hl2)) (fun Dd i x H' hD hx h => ?_) (fun Dd H3 hD h => ?_)
  · obtain ⟨e3, us, hus, hud⟩ := h
    obtain ⟨d, hd1', hx2⟩ := hd2.at hx
    rw [List.getElem?_map] at hd1'
    obtain ⟨st, hst, rfl⟩ := Option.map_eq_some_iff.mp hd1'
    obtain ⟨cs, rfl, hcs⟩ := (td_same e3 hx2).encB_inv
    have e03 := e02.trans e3
    have hT3 := sqt_same e03 hT
    have hT13 := sqt_same e03 hT1
    have hi := (List.getElem?_eq_some_iff.mp hst).1
    have hul : us.length ≤ 4000 := by
      rw [hud.length, List.length_map, List.length_map, List.length_take]
      omega
    walk_at "go"
    refine ⟨rfl, ?_⟩
    walk_at "ga"
    rw [List.length_map]
    refine l_slTN hcs fun cf H4 e4 hcf => ?_
    rw [cut_take, ← List.map_take] at hcf
    have hus4 := e4 _ _ hus
    refine ⟨us, hus4, szl (by omega), same_mut (e3.trans e4) hD, _, upd_same, ?_⟩
    rw [take_get hst, List.map_append, List.map_append]
    exact (tds_lst hus4 (tds_same e4 hud)).append (.one (td_lst hus4 (td_encB hcf)))
  obtain ⟨e3, us, hus, hud⟩ := h
  have hl2l : (wp ++ (List.replicate 3 wr).flatten).length = (p ++ reps r 3).length := by rw [hd2.length, List.length_map]
  rw [hl2l, List.take_length] at hud
  have e03 := e02.trans e3
  walk_at "ga"
  refine ⟨.ref c, u, b, M, Dd, us, (p ++ reps r 3).map fun st => st.take b.foe.length, rfl, td_same e03 hv, hb, td_same e03 hu, hM, hus, hud, fun s hs => ?_, by rw [List.length_map]; omega, ?_⟩
  · obtain ⟨st, hst, rfl⟩ := List.mem_map.mp hs
    rw [List.length_take, hg.len st hst]
    unfold Book.names
    rw [List.length_append]
    omega
  intro l4 ws4 H4 e4 hl40 hl4 hd4
  rw [hg.run] at hd4
  have e04 := e03.trans e4
  walk_at "ga"
  refine l_repL (k := 3) (e04 _ _ hrl) (by decide) (sz (by omega)) fun l5 H5 e5 hl50 hl5 => ?_
  refine l_catN (e5 _ _ (e04 _ _ hpl)) hl5 (sz (by omega)) fun l6 H6 e6 hl60 hl6 => ?_
  have e46 := e5.trans e6
  have e06 := e04.trans e46
  have hd6 : TDs K H6 (wp ++ (List.replicate 3 wr).flatten) ((p ++ reps r 3).map encB) := by
    rw [List.map_append]
    exact tds_same e06 (hpd.append (tds_reps hrd 3))
  have hl46 := e46 _ _ hl4
  have hd46 := tds_same e46 hd4
  refine l_neD (dpl (SqL.of hl46) hd46) (dpl (SqL.of hl6) hd6) (encBs_shaped _) (encBs_shaped _) ?_
  rw [play_eqv]
  walk_at "go"
  refine l_iF (by simp) ?_
  walk_at "ga"
  refine ⟨.ref c, b, l4, ws4, p ++ reps r 3, rfl, td_same e06 hv, hb, hl46, hd46, hg.len, by omega, hg.tat hb, fun r7 H7 e7 hr7 => ?_⟩
  walk_at "ga"
  refine l_mkT (by show 2 ≤ sizeLine; decide) fun t8 H8 e8 ht80 ht8 => ?_
  refine l_neD (td_same e8 hr7).dp (TD.tup (SqT.of ht8) (.two .non .non)).dp (by decide +kernel) (by decide +kernel) ?_
  rw [show PyData.eqv (.tuple [.none, .none]) (.tuple [.none, .none]) = true by decide +kernel]
  walk_at "ga"
  have e48 := e46.trans (e7.trans e8)
  have e08 := e04.trans e48
  refine ⟨.ref c, b, l4, ws4, p ++ reps r 3, rfl, td_same e08 hv, hb, e48 _ _ hl4, tds_same e48 hd4, hg.len, by omega, fun l9 H9 e9 hl90 hl9 => ?_⟩
  have e09 := e08.trans e9
  walk_at "ga"
  refine forR (n := 3) (fun t σ' H' => ∃ (z10 z11 : Option V) (z7 : Option V), σ' = [some (.ref c), some u, some (.int up), some (.int down), some (.ref hl), some (.ref rl), some (.ref Dd), z7, some (.ref l4), some (.ref l9), z10, z11] ∧ Same H9 H') (by decide) ⟨_, _, _, rfl, Same.refl H9⟩ (fun t σ' H10 ht h => ?_) (fun σ' H10 h => ?_)
  · obtain ⟨z10, z11, z7, rfl, e10⟩ := h
    have e010 := e09.trans e10
    have hpl10 := e010 _ _ hpl
    have hrl10 := e010 _ _ hrl
    have hl910 := e10 _ _ hl9
    walk_at "ga"
    rw [hpw, hrw]
    refine l_I (.inl ⟨by omega, by omega⟩) ?_
    rw [show (t : Int) * (r.length : Nat) = ((t * r.length : Nat) : Int) from (Int.natCast_mul _ _).symm]
    walk_at "ga"
    rw [hrw, show ((p.length : Nat) : Int) + ((t * r.length : Nat) : Int) = ((p.length + t * r.length : Nat) : Int) by omega, show ((p.length + t * r.length : Nat) : Int) + (r.length : Nat) = ((p.length + t * r.length + r.length : Nat) : Int) by omega]
    have hbnd : p.length + t * r.length + r.length ≤ p.length + 3 * r.length := by
      have := Nat.mul_le_mul_right r.length (show t + 1 ≤ 3 by omega)
      rw [Nat.succ_mul] at this
      omega
    refine l_slLN (SqL.of hl910) fun l11 H11 e11 hl110 hl11 => ?_
    rw [cut_mid _ (by rw [List.length_map, List.length_map, List.length_range]; omega), ← List.map_drop, ← List.map_take] at hl11
    walk_at "ga"
    refine l_sum (SqL.of hl11) ?_
    walk_at "ga"
    refine l_I (.inr ⟨by omega, by omega⟩) ?_
    have hrl11 := e11 _ _ hrl10
    walk_at "ga"
    rw [hrw]
    refine l_I (.inr ⟨by omega, by omega⟩) ?_
    rw [hsum t ht]
    walk_at "ga"
    refine l_iF (by simp) ?_
    walk_at "ga"
    exact ⟨_, _, _, rfl, e10.trans e11⟩
  · obtain ⟨z10, z11, z7, rfl, e10⟩ := h
    walk_at "ga"
    exact k H10 (e09.trans e10)
end
/-! ### the law -/
def spLawT (K : PySem.W.Frag) : Sp := fun vs H Q _ => ∃ (a : Addr) (ns : List Int), vs = [.ref a] ∧ SqL K H a (ns.map V.int) ∧ ns.length ≤ 63 ∧ ∀ H', Q (.bl true) H'
theorem no_long {G : Gr} (hno : ∀ v x, ¬ Way G G.length 0 v x) {k v : Nat} {x : Int} (h : Way G k 0 v x) : k < G.length := by
  refine Nat.lt_of_not_le fun hk => ?_
  obtain ⟨y, x1, x2, h1, _⟩ := h.cut G.length hk
  exact hno y x1 h1
theorem Way.rep {G : Gr} {v c : Nat} {x : Int} (h : Way G c v v x) : ∀ m : Nat, ∃ y, Way G (m * c) v v y
  | 0 => ⟨0, by rw [Nat.zero_mul]; exact .nil v⟩
  | m + 1 => by
    obtain ⟨y, hy⟩ := Way.rep h m
    exact ⟨_, by rw [Nat.succ_mul]; exact hy.app h⟩
theorem GrOk.none_ring {s : Sr} {G : Gr} {S : List Play} (h : GrOk s G S) (hno : ∀ v x, ¬ Way G G.length 0 v x) : RingLe G 0 1 := by
  intro v c x hv hw
  by_cases hc : c = 0
  · subst hc
    cases hw
    unfold adj
    omega
  · obtain ⟨k, x0, h0⟩ := h.reach v hv
    obtain ⟨y, hy⟩ := hw.rep G.length
    have := no_long hno (h0.app hy)
    have h2 := Nat.le_mul_of_pos_right G.length (show 0 < c by omega)
    omega
theorem GrOk.no_way {s : Sr} {G : Gr} {S : List Play} (h : GrOk s G S) (hno : ∀ v x, ¬ Way G G.length 0 v x) : ∀ v, v < G.length → ∀ y x, ¬ Way G G.length v y x := by
  intro v hv y x hw
  obtain ⟨k, x0, h0⟩ := h.reach v hv
  have := no_long hno (h0.app hw)
  omega
theorem GrOk.mean_ring {s : Sr} {G : Gr} {S : List Play} (h : GrOk s G S) {up down : Int} (hd : 0 < down) (hA : MeanA G G.length up down) : RingLe G up down := by
  intro v c x hv hw
  obtain ⟨k, x0, h0⟩ := h.reach v hv
  exact no_pos h.ok h.pos h.bd (by decide) hd hA h0 hw
theorem GrOk.mean_nn {s : Sr} {G : Gr} {S : List Play} (h : GrOk s G S) {up down : Int} (hd : 0 < down) (hA : MeanA G G.length up down) (hB : MeanB G G.length up down) : 0 ≤ up := by
  obtain ⟨k0, c, y, x0, x, hc, hw0, hw, ha⟩ := zero_ring h.ok h.pos h.bd (by decide) hd hA hB
  have hx := (hw.bd h.bd).1
  unfold adj at ha
  refine Int.not_lt.mp fun hu => ?_
  have h1 : 0 ≤ down * x := Int.mul_nonneg (by omega) hx
  have h2 : up * (c : Nat) < 0 := Int.mul_neg_of_neg_of_pos hu (by omega)
  omega
theorem brk_shaped (p : Play) : SeqAt.shaped (.tuple [.str "breaks", .list (p.map encB)]) = true := by
  refine shaped_of ?_ ?_
  · rw [lay_tup, lay_cons, lay_cons, lay_nil, lay_lst, lay_map fun s _ => encB_lay s]
    decide +kernel
  · rw [dep_tup, dep_cons, dep_cons, dep_nil, dep_str, dep_lst]
    have := dep_map (f := encB) (n := 1) (l := p) fun s _ => encB_dep s
    omega
section
variable {P : Program} {w : World} {K : PySem.W.Frag} {mg : Str → Option Value} {base : Heap}
theorem sc_law : FnScope ["_law_script", "_law_book_here", "_law_machine_here", "_law_nodes", "_law_answer", "_law_play", "_law_graph", "_law_up", "_law_down", "_law_sets", "_law_setting"] ["_law_script"] (defScope s_law) := ⟨rfl, rfl, rfl, by decide +kernel, rfl, by decide +kernel, by decide +kernel⟩
theorem ok_law (D : Hd K mg) {fd : FuncData} (F : FunD K "law" "law" (defArgs s_law) (defBody s_law) (defScope s_law) [] [] (He.ga K "law") fd) : FnOk P w K mg base CX0 24 (He.ga K "law") fd ["_law_script"] (spLawT K) := by
  have G_law_book := ok_lbook (P := P) (w := w) (base := base) D
  have G_law_machine := ok_lmachine (P := P) (w := w) (base := base) D
  have G_game := ok_game (P := P) (w := w) (base := base) D
  have G_judged := ok_judged (P := P) (w := w) (base := base) D
  have G_law_product := ok_product (P := P) (w := w) (base := base) D
  have G_law_is_mean := ok_is_mean (P := P) (w := w) (base := base) D
  have G_law_none_worse := ok_none_worse (P := P) (w := w) (base := base) D
  have G_run := ok_run (P := P) (w := w) (base := base) D
  have G_first_breaks := ok_first_breaks (P := P) (w := w) (base := base) D
  have G_law_is_endless := ok_is_endless (P := P) (w := w) (base := base) D
  have G_law_has_ring := ok_has_ring (P := P) (w := w) (base := base) D
  have G_law_rings := ok_rings (P := P) (w := w) (base := base) D
  refine F.ok sc_law (fun vs H Q E h => ?_) (fun cdv A outer sS H vs Q E hr h => ?_)
  · obtain ⟨a, ns, rfl, _⟩ := h
    rfl
  obtain ⟨a, ns, rfl, hs, hz, q⟩ := h
  refine ⟨_, (PSs.nox (pss_cons (ps_set (i := 1) sc_law.nd rfl (Or.inr rfl) (pe_cl G_law_book hr (pa_cons (pv 0) (pa_cons pe_int (pa_cons pe_int (pa_cons pe_int pa_nil))))))
      (pss_cons (ps_set (i := 2) sc_law.nd rfl (Or.inl rfl) (pe_cl G_law_machine hr (pa_cons (pv 0) (pa_cons pe_int (pa_cons (pe_callB (cl_lenK K) (by rfl) (g_len D) (by decide +kernel) (pa_cons (pe_ix (ix_tupK K) (pv 1) pe_int (fun _ _ => rfl)) pa_nil)) (pa_cons (pe_callB (cl_lenK K) (by rfl) (g_len D) (by decide +kernel) (pa_cons (pe_ix (ix_tupK K) (pv 1) pe_int (fun _ _ => rfl)) pa_nil)) (pa_cons pe_int pa_nil)))))))
      (pss_cons (ps_set (i := 3) sc_law.nd rfl (Or.inl rfl) (pe_cl G_game hr (pa_cons (pv 1) pa_nil)))
      (pss_cons (ps_set (i := 4) sc_law.nd rfl (Or.inl rfl) (pe_cl G_judged hr (pa_cons (pv 1) (pa_cons (pv 2) pa_nil))))
      (pss_cons (ps_asg (pe_cl G_law_product hr (pa_cons (pv 1) (pa_cons (pv 3) (pa_cons (pv 2) pa_nil)))) (pg_tupK K (n := 2) rfl (pgs_cons (pg_name (i := 5) sc_law.nd rfl (Or.inl rfl)) (pgs_cons (pg_name (i := 6) sc_law.nd rfl (Or.inl rfl)) pgs_nil))))
      (pss_cons (ps_if (pt_cmpR op_isnt0 (pv 5) pe_non (nomark _)) (pss_one (ps_ret (pe_cmpR (op_eqDK K (hu64 hr)) (pv 4) (pe_tup (pa_cons pe_str (pa_cons (pv 5) pa_nil))) (nomark _)))) pss_nil)
      (pss_cons (ps_if (PW.pt (pw_or (pt_not (pt_val (pe_callB (cl_isiK K) (by rfl) (g_isinstance D) (by decide +kernel) (pa_cons (pv 4) (pa_cons (pe_bltn (v := .ty "tuple") (by rfl) (g_tuple D) (by decide +kernel) rfl) pa_nil))))) (pw_or (pt_cmpR op_ne (pe_callB (cl_lenK K) (by rfl) (g_len D) (by decide +kernel) (pa_cons (pv 4) pa_nil)) pe_int (nomark _)) (pw_or (pt_cmpR op_ne (pe_ix (ix_tupK K) (pv 4) pe_int (fun _ _ => rfl)) pe_str (nomark _)) (pw_or1 (pt_not (pt_val (pe_cl G_law_is_mean hr (pa_cons (pe_ix (ix_tupK K) (pv 4) pe_int (fun _ _ => rfl)) pa_nil))))))))) (pss_one (ps_ret pe_bl)) pss_nil)
      (pss_cons (ps_asg (pe_ix (ix_tupK K) (pv 4) pe_int (fun _ _ => rfl)) (pg_tupK K (n := 2) rfl (pgs_cons (pg_name (i := 7) sc_law.nd rfl (Or.inl rfl)) (pgs_cons (pg_name (i := 8) sc_law.nd rfl (Or.inl rfl)) pgs_nil))))
      (pss_cons (ps_if (PW.pt (pw_or (pt_not (pt_val (pe_callB (cl_isiK K) (by rfl) (g_isinstance D) (by decide +kernel) (pa_cons (pe_ix (ix_tupK K) (pv 4) pe_int (fun _ _ => rfl)) (pa_cons (pe_bltn (v := .ty "list") (by rfl) (g_list D) (by decide +kernel) rfl) pa_nil))))) (pw_or1 (pt_not (pt_val (pe_callB (cl_isiK K) (by rfl) (g_isinstance D) (by decide +kernel) (pa_cons (pe_ix (ix_tupK K) (pv 4) pe_int (fun _ _ => rfl)) (pa_cons (pe_bltn (v := .ty "list") (by rfl) (g_list D) (by decide +kernel) rfl) pa_nil)))))))) (pss_one (ps_ret pe_bl)) pss_nil)
      (pss_cons (ps_if (pt_not (pt_val (pe_cl G_law_none_worse hr (pa_cons (pv 6) (pa_cons (pv 7) (pa_cons (pv 8) pa_nil)))))) (pss_one (ps_ret pe_bl)) pss_nil)
      (pss_cons (ps_if (pt_cmpR (op_eqDK K (hu64 hr)) (pe_ix (ix_tupK K) (pv 4) pe_int (fun _ _ => rfl)) (pe_lst pa_nil) (nomark _)) (pss_cons (ps_setLc (i := 9) (own := [("_law_setting", 10)]) (g := gName 10) (tt := tYes) (by rfl) sc_law.nd rfl rfl (sw_true rfl rfl rfl (by decide +kernel)) (pi_listK K (pe_ix (ix_tupK K) (pv 4) pe_int (fun _ _ => rfl))) (blkOk_by (N := ["_law_script", "_law_book_here", "_law_machine_here", "_law_nodes", "_law_answer", "_law_play", "_law_graph", "_law_up", "_law_down", "_law_sets", "_law_setting"]) (sc := defScope s_law) (by decide +kernel)) (fun _ _ _ _ _ => (pg_name (i := 10) sc_law.nd rfl (Or.inl rfl))) (fun _ _ _ _ _ => pts_nil) (fun _ _ _ _ _ => (pe_slice (sl_tupK K) (pv 10) po_none (po_some (pe_callB (cl_lenK K) (by rfl) (g_len D) (by decide +kernel) (pa_cons (pe_ix (ix_tupK K) (pv 1) pe_int (fun _ _ => rfl)) pa_nil))))))
      (pss_cons (ps_if (PW.pt (pw_or (pt_cmpR op_ne (pv 7) pe_int (nomark _)) (pw_or (pt_cmpR (op_neDK K (hu64 hr)) (pe_cl G_run hr (pa_cons (pv 1) (pa_cons (pv 2) (pa_cons (pv 9) pa_nil)))) (pe_ix (ix_tupK K) (pv 4) pe_int (fun _ _ => rfl)) (nomark _)) (pw_or1 (pt_cmpR (op_neDK K (hu64 hr)) (pe_cl G_first_breaks hr (pa_cons (pv 1) (pa_cons (pe_ix (ix_tupK K) (pv 4) pe_int (fun _ _ => rfl)) pa_nil))) (pe_tup (pa_cons pe_non (pa_cons pe_non pa_nil))) (nomark _)))))) (pss_one (ps_ret pe_bl)) pss_nil)
      (pss_one (ps_ret (pe_and (pe_not (pe_cl G_law_is_endless hr (pa_cons (pv 1) (pa_cons (pv 3) (pa_cons (pe_ix (ix_tupK K) (pv 4) pe_int (fun _ _ => rfl)) pa_nil))))) (pe_one (pe_not (pe_cl G_law_has_ring hr (pa_cons (pv 6) pa_nil))))))))) pss_nil)
      (pss_one (ps_ret (pe_cl G_law_rings hr (pa_cons (pv 1) (pa_cons (pv 2) (pa_cons (pv 7) (pa_cons (pv 8) (pa_cons (pe_ix (ix_tupK K) (pv 4) pe_int (fun _ _ => rfl)) (pa_cons (pe_ix (ix_tupK K) (pv 4) pe_int (fun _ _ => rfl)) pa_nil))))))))))))))))))))), ?_⟩
  walk_at "ga"
  refine ⟨a, ns, 24, rfl, hs, by omega, by decide, fun rb b H1 e1 hb hbd => ?_⟩
  obtain ⟨c, x1, x2, x3, x4, x5, rfl, hT, g1, g2, _⟩ := id hbd.t5
  obtain ⟨c1, y1, rfl, hT1, hs1⟩ := g1.tup_inv
  cases hs1.strs_inv
  obtain ⟨c2, y2, rfl, hT2, hs2⟩ := g2.tup_inv
  cases hs2.strs_inv
  walk_at "ga"
  rw [List.length_map, List.length_map]
  refine ⟨a, ns, 0, b, rfl, e1.seq hs, by omega, by decide, hb, fun u M H2 e2 hM hM5 hu => ?_⟩
  walk_at "ga"
  refine ⟨.ref c, b, rfl, td_same e2 hbd, hb, fun nl wn H3 e3 hnl0 hnl hnd => ?_⟩
  have e13 := e2.trans e3
  have hbd3 := td_same e13 hbd
  have hu3 := td_same e3 hu
  have hf1 := hb.foe1
  have hf2 := hb.foe2
  have hr2 := hb.fr2
  walk_at "ga"
  refine ⟨.ref c, u, b, M, rfl, hbd3, hb, hu3, hM, hM5, fun p hres t l H4 e4 ht hl => ?_, fun s G S hres hG hno v p r H4 hv hsink hp e4 hmv => ?_, fun s G S hres hG up down hd0 hd1 hgcd hA hB h v p rg r H4 hf hv hq1 hq2 hlw hp e4 hmv => ?_⟩
  · -- a must is broken
    walk_at "ga"
    refine ⟨.ref c, u, nl, wn, b, M, rfl, td_same e4 hbd3, hb, td_same e4 hu3, hM, hM5, e4 _ _ hnl, tds_same e4 hnd, fun p2 hres2 t2 l2 H5 e5 ht2 hl2 => ?_, fun r hres2 => by rw [hres] at hres2; cases hres2⟩
    rw [hres] at hres2
    cases hres2
    walk_at "ga"
    refine l_mkT (by show 2 ≤ sizeLine; decide) fun t6 H6 e6 ht60 ht6 => ?_
    have hd4 : Dp K H6 (.ref t) (.tuple [.str "breaks", .list (p.map encB)]) := by
      obtain ⟨ws, w1, w2⟩ := hl.same (e5.trans e6)
      exact .tup (sqt_same (e5.trans e6) ht) (.cons (.str _) (.cons (dpl (SqL.of w1) w2) .nil))
    have hd6 : Dp K H6 (.ref t6) (.tuple [.str "breaks", .list (p.map encB)]) := by
      obtain ⟨ws, w1, w2⟩ := hl2.same e6
      exact .tup (SqT.of ht6) (.cons (.str _) (.cons (dpl (SqL.of w1) w2) .nil))
    refine l_eqD hd4 hd6 (brk_shaped p) (brk_shaped p) ?_
    rw [eqv_tup, eqvA_cons, eqvA_cons, eqvA_nil, eqv_str, play_eqv]
    rw [decide_eq_true rfl, decide_eq_true rfl]
    exact q H6
  · -- no ring is there
    have hr := srRes_ok hb hM hres
    obtain ⟨t, mt, hl, rl, rfl, ht, hmt, hhl, hrl⟩ := hmv
    obtain ⟨p', x, hp1, hrw⟩ := hG.play v hv
    rw [hp] at hp1
    cases hp1
    obtain ⟨qq, hqq, hgood⟩ := hrw.good hb hM hr
    have hplen := (hr.sr.play (v + 1) v p (by omega) hp).1
    have hmost := hG.most
    have hempty : movesN b qq.2 = [] := by
      obtain ⟨p2, h1, h2⟩ := hr.row v hv
      rw [hqq] at h1
      cases h1
      have h3 := h2.l1
      rw [show Gr.at G v = [] from hsink] at h3
      exact List.length_eq_zero_iff.mp h3.symm
    walk_at "ga"
    refine ⟨.ref c, u, nl, wn, b, M, rfl, td_same e4 hbd3, hb, td_same e4 hu3, hM, hM5, e4 _ _ hnl, tds_same e4 hnd, fun p2 hres2 => (by rw [hres] at hres2; cases hres2), fun r hres2 _ t2 g H5 e5 ht2 hgr => ?_⟩
    rw [hres] at hres2
    cases hres2
    have hgr : GraphAt K H5 g G := hgr
    have ht5 := sqt_same e5 ht
    have hmt5 := td_same e5 hmt
    obtain ⟨am, m1, m2, hme, hTm, hm1, hm2⟩ := id hmt5.t2
    cases hme
    cases hm1.int_inv
    cases hm2.int_inv
    walk_at "ga"
    refine ⟨_, 0, 1, rfl, hmt5, by decide, by decide, by decide, ?_⟩
    obtain ⟨wh, wh1, wh2⟩ := hhl.same e5
    obtain ⟨wr, wr1, wr2⟩ := hrl.same e5
    cases wr2.nil_inv
    walk_at "ga"
    refine ⟨g, G, 0, 1, rfl, hgr, hG.ok, hG.pos, by omega, hG.bd, hG.none_ring hno, fun H6 e6 => ?_⟩
    have ht6 := sqt_same e6 ht5
    walk_at "ga"
    refine l_mkL0 fun lz H7 e7 hlz0 hlz => ?_
    have e57 := e6.trans e7
    refine l_eqD (dpl (SqL.of (e57 _ _ wr1)) TDs.nil) (dpl (SqL.of hlz) TDs.nil) (by decide +kernel) (by decide +kernel) ?_
    rw [show PyData.eqv (.list []) (.list []) = true by decide +kernel]
    have ht7 := sqt_same e57 ht5
    have wh7 := e57 _ _ wh1
    have wd7 := tds_same e57 wh2
    have e17 : Same H1 H7 := e13.trans (e4.trans (e5.trans e57))
    have e37 : Same H3 H7 := e4.trans (e5.trans e57)
    have hwl : wh.length = p.length := by rw [wh2.length, List.length_map]
    walk_at "ga"
    refine lcLP (SqL.of wh7) (fun Dd i H' => Same H7 H' ∧ ∃ us, H' Dd = some (.lst us) ∧ TDs K H' us (((p.take i).map fun st => st.take b.foe.length).map encB)) (fun Dd hD => ⟨same_new hD, [], upd_same, .nil⟩) (fun Dd i H' h => h.1.seq (SqL.of wh7)) (fun Dd i x H' hD hx h => ?_) (fun Dd H8 hD h => ?_)
    · obtain ⟨e8, us, hus, hud⟩ := h
      obtain ⟨d, hd1', hx2⟩ := wd7.at hx
      rw [List.getElem?_map] at hd1'
      obtain ⟨st, hst, rfl⟩ := Option.map_eq_some_iff.mp hd1'
      obtain ⟨cs, rfl, hcs⟩ := (td_same e8 hx2).encB_inv
      have hT8 := sqt_same (e17.trans e8) hT
      have hT18 := sqt_same (e17.trans e8) hT1
      have hi := (List.getElem?_eq_some_iff.mp hst).1
      have hul : us.length ≤ 4000 := by
        rw [hud.length, List.length_map, List.length_map, List.length_take]
        omega
      walk_at "go"
      refine ⟨rfl, ?_⟩
      walk_at "ga"
      rw [List.length_map]
      refine l_slTN hcs fun cf H9 e9 hcf => ?_
      rw [cut_take, ← List.map_take] at hcf
      have hus9 := e9 _ _ hus
      refine ⟨us, hus9, szl (by omega), same_mut (e8.trans e9) hD, _, upd_same, ?_⟩
      rw [take_get hst, List.map_append, List.map_append]
      exact (tds_lst hus9 (tds_same e9 hud)).append (.one (td_lst hus9 (td_encB hcf)))
    obtain ⟨e8, us, hus, hud⟩ := h
    rw [hwl, List.take_length] at hud
    walk_at "ga"
    refine ⟨.ref c, u, b, M, Dd, us, p.map fun st => st.take b.foe.length, rfl, td_same (e17.trans e8) hbd, hb, td_same (e37.trans e8) hu3, hM, hus, hud, fun s hs => ?_, by rw [List.length_map]; omega, ?_⟩
    · obtain ⟨st, hst, rfl⟩ := List.mem_map.mp hs
      rw [List.length_take, hgood.len st hst]
      unfold Book.names
      rw [List.length_append]
      omega
    intro l9 ws9 H9 e9 hl90 hl9 hd9
    rw [hgood.run] at hd9
    have ht9 := sqt_same (e8.trans e9) ht7
    have wh9 := (e8.trans e9) _ _ wh7
    have wd9 := tds_same (e8.trans e9) wd7
    have e19 := e17.trans (e8.trans e9)
    walk_at "ga"
    refine l_neD (dpl (SqL.of hl9) hd9) (dpl (SqL.of wh9) wd9) (encBs_shaped _) (encBs_shaped _) ?_
    rw [play_eqv]
    walk_at "go"
    refine l_iF (by simp) ?_
    walk_at "ga"
    refine ⟨.ref c, b, hl, wh, p, rfl, td_same e19 hbd, hb, wh9, wd9, hgood.len, by omega, hgood.tat hb, fun r10 H10 e10 hr10 => ?_⟩
    walk_at "ga"
    refine l_mkT (by show 2 ≤ sizeLine; decide) fun t11 H11 e11 ht110 ht11 => ?_
    refine l_neD (td_same e11 hr10).dp (TD.tup (SqT.of ht11) (.two .non .non)).dp (by decide +kernel) (by decide +kernel) ?_
    rw [show PyData.eqv (.tuple [.none, .none]) (.tuple [.none, .none]) = true by decide +kernel]
    have e911 := e10.trans e11
    have ht11' := sqt_same e911 ht9
    have e311 : Same H3 H11 := e37.trans ((e8.trans e9).trans e911)
    walk_at "ga"
    refine ⟨.ref c, nl, hl, wn, b, p, qq.2, rfl, td_same e311 hbd3, hb, e311 _ _ hnl, tds_same e311 hnd, ⟨wh, e911 _ _ wh9, tds_same e911 wd9⟩, hgood.path, hgood.len, hempty, fun H12 e12 => ?_⟩
    walk_at "ga"
    refine ⟨g, G, rfl, hgr.same (e57.trans ((e8.trans e9).trans (e911.trans e12))), by omega, fun v => Nat.le_trans (hG.few v) (by decide), hG.no_way hno, fun H13 e13 => ?_⟩
    walk_at "ga"
    exact q H13
  · -- a mean
    have hr := srRes_ok hb hM hres
    obtain ⟨t, mt, hl, rl, rfl, ht, hmt, hhl, hrl⟩ := hmv
    obtain ⟨p', x, hp1, hrw⟩ := hG.play v hv
    rw [hp] at hp1
    cases hp1
    obtain ⟨y, hring, hadj⟩ := hlw.rway
    have hplen := (hr.sr.play (v + 1) v p (by omega) hp).1
    have hmost := hG.most
    obtain ⟨qq, hqq, hgood⟩ := (hrw.app (hring.reps 3)).good hb hM hr
    walk_at "ga"
    refine ⟨.ref c, u, nl, wn, b, M, rfl, td_same e4 hbd3, hb, td_same e4 hu3, hM, hM5, e4 _ _ hnl, tds_same e4 hnd, fun p2 hres2 => (by rw [hres] at hres2; cases hres2), fun r hres2 _ t2 g H5 e5 ht2 hgr => ?_⟩
    rw [hres] at hres2
    cases hres2
    have hgr : GraphAt K H5 g G := hgr
    have ht5 := sqt_same e5 ht
    have hmt5 := td_same e5 hmt
    obtain ⟨am, m1, m2, hme, hTm, hm1, hm2⟩ := id hmt5.t2
    cases hme
    cases hm1.int_inv
    cases hm2.int_inv
    walk_at "ga"
    refine ⟨_, up, down, rfl, hmt5, hG.mean_nn hd0 hA hB, by omega, hgcd, ?_⟩
    obtain ⟨wh, wh1, wh2⟩ := hhl.same e5
    obtain ⟨wr, wr1, wr2⟩ := hrl.same e5
    walk_at "ga"
    refine ⟨g, G, up, down, rfl, hgr, hG.ok, hG.pos, by omega, hG.bd, hG.mean_ring hd0 hA, fun H6 e6 => ?_⟩
    have ht6 := sqt_same e6 ht5
    walk_at "ga"
    refine l_mkL0 fun lz H7 e7 hlz0 hlz => ?_
    have e57 := e6.trans e7
    refine l_eqD (dpl (SqL.of (e57 _ _ wr1)) (tds_same e57 wr2)) (dpl (SqL.of hlz) TDs.nil) (encBs_shaped _) (by decide +kernel) ?_
    rw [eqv_lst, eqv_nil]
    have ht7 := sqt_same e57 ht5
    have e17 : Same H1 H7 := e13.trans (e4.trans (e5.trans e57))
    have e37 : Same H3 H7 := e4.trans (e5.trans e57)
    walk_at "go"
    refine l_iF (decide_eq_false hq1) ?_
    walk_at "ga"
    refine ⟨.ref c, u, b, M, up, down, hl, rl, p, rg, qq, _, rfl, td_same e17 hbd, hb, td_same e37 hu3, hM, ⟨wh, e57 _ _ wh1, tds_same e57 wh2⟩, ⟨wr, e57 _ _ wr1, tds_same e57 wr2⟩, by omega, hq2, hd0, hd1, hgood, fun t ht => ?_, fun H8 e8 => q H8⟩
    rw [ring_loss hb hM hr hrw hring ht, Int.mul_comm]
    unfold adj at hadj
    omega
end
end Lk
set_option maxHeartbeats 0
open PySem PySem.W PySem.Calls PyProof.Rows
/-- the head, joined -/
theorem PySem.Challenge.cw_leastloss_k22_whole_judged_holds : PySem.Challenge.rw_leastloss_k22_whole_judged.Holds := by
  w_on; o_law
  refine HandSHeadRun.head_any (r := OpenLaw.row PySem.Challenge.rw_leastloss_k22_whole_judged) (q := Lk.qv) (H := Lk.hk) (ob := Lk.ob) (M := 4000) (loose := Lk.loose) (d := HandSHeadRun.topDef (OpenLaw.row PySem.Challenge.rw_leastloss_k22_whole_judged).prog 79) (kwd := []) Lk.ob_eq
    (by kernel_rfl) (fun s => by kernel_rfl) Lk.run (by kernel_rfl) (by kernel_rfl) (by kernel_rfl) (by rfl) (by first | assumption | decide +kernel) (by decide +kernel) ⟨rfl, rfl, rfl, rfl, rfl, by decide +kernel⟩ ?hw ?hc
  case hw => w_witness2
  case hc =>
    refine L2.walk_ofE (l := PySem.Challenge.rw_leastloss_k22_whole_judged) (n := 63) (k := 24) (x := "_law_script") (CX := L2.CX0) rfl (by decide) (by kernel_rfl) ⟨rfl, by decide +kernel, by decide +kernel⟩ ?F (fun _ _ _ _ z => z)
    intro w mg fa h Y G hmg0
    obtain ⟨K, KX, c⟩ := Y
    have hmg : mg ("law" : PySem.Str) = some (.ref fa) := by
      have e : (HandSHeadRun.topDef (OpenLaw.row PySem.Challenge.rw_leastloss_k22_whole_judged).prog 79).name = ("law" : PySem.Str) := by kernel_rfl
      rw [← e]
      exact hmg0
    have cd : He.SaysD Lk.fa Lk.fn K := c.t.d
    have D : Lk.Hd K mg := ⟨fun _ d hd => cd.defs (List.mem_of_getElem? hd), fun _ f hf => cd.facts (List.mem_of_getElem? hf), fun _ x hx => He.glo_ok KX G (cd.facts (List.mem_of_getElem? hx)), fun _ x hx => He.free_ok KX G (cd.facts (List.mem_of_getElem? hx)), fun _ x i hx => He.int_ok KX G (cd.facts (List.mem_of_getElem? hx)), fun _ x i hx => He.str_ok KX G (cd.facts (List.mem_of_getElem? hx)), c.more⟩
    have hL : Lk.d_law ∈ Lk.fn := by simp [Lk.fn]
    obtain ⟨fd, FL⟩ := cd.defs hL
    have eg : mg ("law" : PySem.Str) = some (.ref (He.ga K "law")) := He.glo_ok KX G (cd.facts (by simp [Lk.fa, Lk.fa0, Lk.fa1]))
    rw [hmg] at eg
    have efa : fa = He.ga K "law" := by cases eg; rfl
    have b := L2.FunD.bindsA (ps := ["_law_script"]) FL fun _ _ _ _ _ _ us hl => match us, hl with | [_], _ => rfl
    refine ⟨K, fd, Lk.spLawT K, KX, fun s v => b s [v] rfl, fun H a ns hl ho hS => ⟨a, ns, rfl, hS, hl, fun _ => rfl⟩, fun base hb1 hb2 => ?_⟩
    rw [efa]
    exact Lk.ok_law D FL
