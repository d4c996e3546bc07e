import PyProof.Rows.All
import Wide.All
import OpenK.AllK
import Wide.FinOn
import HandS.ForMost
import HandS.Exc
import HandS.TryOnly
import HandS.ExcOwn
import HandS.WordsExc
import HandS.ExcCtx
import HandS.Defaults
import HandS.HeadHook2
import HandS.HeadHook4
import PySem.Challenge.RW_farhold_k52_desk_asks
import HandS.Conv
import HandS.More
import HandS.DictTup
import HandS.SortRule
import HandS.SortInts
import HandS.SortKw
import KE.KDictSum
import KE.KDictCopyH
import KE.KDictOf
import PyProof.DictMoreH
import HandS.Walk
import HandS.WordsDict
import KE.GoesMore
import HandS.HotCalls
import HandS.ExcIs
import HandS.IsInst
import KE.KStateDown
import Lean
import HandS.Head0
import HandS.Head1
import HandS.Head2
import HandS.HeadEnd
set_option Elab.async false
set_option linter.all false
set_option maxRecDepth 100000
namespace Fh
open PySem PySem.Spec PyProof.Rows L2
def top (i : Nat) : Stmt := PySem.Challenge.pw_farhold_k52_desk_asks.main.body.getD i (.Pass ⟨0, 0, 0, 0⟩)
abbrev s_parted : Stmt := top 11
abbrev s_near_reach : Stmt := top 13
abbrev sH_init : Stmt := inClass (top 14) 0
abbrev sH_tick : Stmt := inClass (top 14) 1
abbrev sH_state : Stmt := inClass (top 14) 2
abbrev sH_need : Stmt := inClass (top 14) 3
abbrev sH_held_by : Stmt := inClass (top 14) 4
abbrev sH_make : Stmt := inClass (top 14) 5
abbrev sH_hold : Stmt := inClass (top 14) 6
abbrev sH_drop : Stmt := inClass (top 14) 7
abbrev sH_take : Stmt := inClass (top 14) 8
abbrev sH_free : Stmt := inClass (top 14) 9
abbrev sH_is_last : Stmt := inClass (top 14) 10
abbrev sH_part : Stmt := inClass (top 14) 11
abbrev sH_came : Stmt := inClass (top 14) 12
abbrev sH_added : Stmt := inClass (top 14) 13
abbrev sH_given : Stmt := inClass (top 14) 14
abbrev sH_passed : Stmt := inClass (top 14) 15
abbrev sH_gone : Stmt := inClass (top 14) 16
abbrev sH_given_back : Stmt := inClass (top 14) 17
abbrev sH_clean : Stmt := inClass (top 14) 18
abbrev sH_let : Stmt := inClass (top 14) 19
abbrev s_outs_of : Stmt := top 16
abbrev s_holds_of : Stmt := top 17
abbrev s_recorded : Stmt := top 18
abbrev s_roots_of : Stmt := top 19
abbrev s_reached_from : Stmt := top 20
abbrev s_unreached : Stmt := top 21
abbrev sQ_init : Stmt := inClass (top 23) 0
abbrev sQ_first : Stmt := inClass (top 23) 1
abbrev sQ_second : Stmt := inClass (top 23) 2
abbrev sQ_still : Stmt := inClass (top 23) 3
abbrev sQ_result : Stmt := inClass (top 23) 4
abbrev sP_init : Stmt := inClass (top 25) 0
abbrev sP_put : Stmt := inClass (top 25) 1
abbrev sP_letters : Stmt := inClass (top 25) 2
abbrev sP_taken : Stmt := inClass (top 25) 3
abbrev sW_init : Stmt := inClass (top 27) 0
abbrev sW_house : Stmt := inClass (top 27) 1
abbrev sW_state : Stmt := inClass (top 27) 2
abbrev sW_letters : Stmt := inClass (top 27) 4
abbrev sW_inquiry : Stmt := inClass (top 27) 5
abbrev sW_make : Stmt := inClass (top 27) 6
abbrev sW_hold : Stmt := inClass (top 27) 7
abbrev sW_drop : Stmt := inClass (top 27) 8
abbrev sW_take : Stmt := inClass (top 27) 9
abbrev sW_free : Stmt := inClass (top 27) 10
abbrev sW_send : Stmt := inClass (top 27) 11
abbrev sW_backs : Stmt := inClass (top 27) 12
abbrev sW_clean : Stmt := inClass (top 27) 13
abbrev sW_asks : Stmt := inClass (top 27) 14
abbrev sW_ask : Stmt := inClass (top 27) 15
abbrev sW_answered : Stmt := inClass (top 27) 16
abbrev sW_heard : Stmt := inClass (top 27) 17
abbrev sW_lets : Stmt := inClass (top 27) 18
abbrev sW_passed : Stmt := inClass (top 27) 19
abbrev sW_deliver : Stmt := inClass (top 27) 20
abbrev s_number_of : Stmt := top 31
abbrev s_thing_of : Stmt := top 32
abbrev s_read_by : Stmt := top 33
abbrev s_thing_text : Stmt := top 34
abbrev s_listed : Stmt := top 35
abbrev s_letter_text : Stmt := top 36
abbrev sD_init : Stmt := inClass (top 37) 0
abbrev sD_say : Stmt := inClass (top 37) 1
abbrev sD_deed : Stmt := inClass (top 37) 2
abbrev sD_by_letters : Stmt := inClass (top 37) 3
abbrev sD_told : Stmt := inClass (top 37) 4
abbrev sD_holds : Stmt := inClass (top 37) 5
abbrev s_l_cell : Stmt := top 39
abbrev s_l_stream : Stmt := top 40
abbrev s_l_class : Stmt := top 41
abbrev s_l_pick : Stmt := top 42
abbrev s_l_held_by : Stmt := top 43
abbrev s_l_come : Stmt := top 44
abbrev s_l_deed : Stmt := top 45
abbrev s_l_done : Stmt := top 46
abbrev s_l_thing : Stmt := top 47
abbrev s_l_listed : Stmt := top 48
abbrev s_l_say : Stmt := top 49
abbrev s_l_row_of : Stmt := top 50
abbrev s_l_things_of : Stmt := top 52
abbrev s_l_holds_of : Stmt := top 53
abbrev s_l_ask : Stmt := top 54
abbrev s_l_due : Stmt := top 55
abbrev s_law : Stmt := top 56
def d_parted : He.DefD := ⟨("parted", none), "parted", "parted", defArgs s_parted, defBody s_parted, defScope s_parted, [], []⟩
def d_near_reach : He.DefD := ⟨("near_reach", none), "near_reach", "near_reach", defArgs s_near_reach, defBody s_near_reach, defScope s_near_reach, [], []⟩
def dH_init : He.DefD := ⟨("House", some "__init__"), "__init__", "House.__init__", defArgs sH_init, defBody sH_init, defScope sH_init, [], []⟩
def dH_tick : He.DefD := ⟨("House", some "tick"), "tick", "House.tick", defArgs sH_tick, defBody sH_tick, defScope sH_tick, [], []⟩
def dH_state : He.DefD := ⟨("House", some "state"), "state", "House.state", defArgs sH_state, defBody sH_state, defScope sH_state, [], []⟩
def dH_need : He.DefD := ⟨("House", some "need"), "need", "House.need", defArgs sH_need, defBody sH_need, defScope sH_need, [], []⟩
def dH_held_by : He.DefD := ⟨("House", some "held_by"), "held_by", "House.held_by", defArgs sH_held_by, defBody sH_held_by, defScope sH_held_by, [], []⟩
def dH_make : He.DefD := ⟨("House", some "make"), "make", "House.make", defArgs sH_make, defBody sH_make, defScope sH_make, [], []⟩
def dH_hold : He.DefD := ⟨("House", some "hold"), "hold", "House.hold", defArgs sH_hold, defBody sH_hold, defScope sH_hold, [], []⟩
def dH_drop : He.DefD := ⟨("House", some "drop"), "drop", "House.drop", defArgs sH_drop, defBody sH_drop, defScope sH_drop, [], []⟩
def dH_take : He.DefD := ⟨("House", some "take"), "take", "House.take", defArgs sH_take, defBody sH_take, defScope sH_take, [], []⟩
def dH_free : He.DefD := ⟨("House", some "free"), "free", "House.free", defArgs sH_free, defBody sH_free, defScope sH_free, [], []⟩
def dH_is_last : He.DefD := ⟨("House", some "is_last"), "is_last", "House.is_last", defArgs sH_is_last, defBody sH_is_last, defScope sH_is_last, [], []⟩
def dH_part : He.DefD := ⟨("House", some "part"), "part", "House.part", defArgs sH_part, defBody sH_part, defScope sH_part, [], []⟩
def dH_came : He.DefD := ⟨("House", some "came"), "came", "House.came", defArgs sH_came, defBody sH_came, defScope sH_came, [], []⟩
def dH_added : He.DefD := ⟨("House", some "added"), "added", "House.added", defArgs sH_added, defBody sH_added, defScope sH_added, [], []⟩
def dH_given : He.DefD := ⟨("House", some "given"), "given", "House.given", defArgs sH_given, defBody sH_given, defScope sH_given, [], []⟩
def dH_passed : He.DefD := ⟨("House", some "passed"), "passed", "House.passed", defArgs sH_passed, defBody sH_passed, defScope sH_passed, [], []⟩
def dH_gone : He.DefD := ⟨("House", some "gone"), "gone", "House.gone", defArgs sH_gone, defBody sH_gone, defScope sH_gone, [], []⟩
def dH_given_back : He.DefD := ⟨("House", some "given_back"), "given_back", "House.given_back", defArgs sH_given_back, defBody sH_given_back, defScope sH_given_back, [], []⟩
def dH_clean : He.DefD := ⟨("House", some "clean"), "clean", "House.clean", defArgs sH_clean, defBody sH_clean, defScope sH_clean, [], []⟩
def dH_let : He.DefD := ⟨("House", some "let"), "let", "House.let", defArgs sH_let, defBody sH_let, defScope sH_let, [], []⟩
def d_outs_of : He.DefD := ⟨("outs_of", none), "outs_of", "outs_of", defArgs s_outs_of, defBody s_outs_of, defScope s_outs_of, [], []⟩
def d_holds_of : He.DefD := ⟨("holds_of", none), "holds_of", "holds_of", defArgs s_holds_of, defBody s_holds_of, defScope s_holds_of, [], []⟩
def d_recorded : He.DefD := ⟨("recorded", none), "recorded", "recorded", defArgs s_recorded, defBody s_recorded, defScope s_recorded, [], []⟩
def d_roots_of : He.DefD := ⟨("roots_of", none), "roots_of", "roots_of", defArgs s_roots_of, defBody s_roots_of, defScope s_roots_of, [], []⟩
def d_reached_from : He.DefD := ⟨("reached_from", none), "reached_from", "reached_from", defArgs s_reached_from, defBody s_reached_from, defScope s_reached_from, [], []⟩
def d_unreached : He.DefD := ⟨("unreached", none), "unreached", "unreached", defArgs s_unreached, defBody s_unreached, defScope s_unreached, [], []⟩
def dQ_init : He.DefD := ⟨("Inquiry", some "__init__"), "__init__", "Inquiry.__init__", defArgs sQ_init, defBody sQ_init, defScope sQ_init, [], []⟩
def dQ_first : He.DefD := ⟨("Inquiry", some "first"), "first", "Inquiry.first", defArgs sQ_first, defBody sQ_first, defScope sQ_first, [], []⟩
def dQ_second : He.DefD := ⟨("Inquiry", some "second"), "second", "Inquiry.second", defArgs sQ_second, defBody sQ_second, defScope sQ_second, [], []⟩
def dQ_still : He.DefD := ⟨("Inquiry", some "still"), "still", "Inquiry.still", defArgs sQ_still, defBody sQ_still, defScope sQ_still, [], []⟩
def dQ_result : He.DefD := ⟨("Inquiry", some "result"), "result", "Inquiry.result", defArgs sQ_result, defBody sQ_result, defScope sQ_result, [], []⟩
def dP_init : He.DefD := ⟨("Post", some "__init__"), "__init__", "Post.__init__", defArgs sP_init, defBody sP_init, defScope sP_init, [], []⟩
def dP_put : He.DefD := ⟨("Post", some "put"), "put", "Post.put", defArgs sP_put, defBody sP_put, defScope sP_put, [], []⟩
def dP_letters : He.DefD := ⟨("Post", some "letters"), "letters", "Post.letters", defArgs sP_letters, defBody sP_letters, defScope sP_letters, [], []⟩
def dP_taken : He.DefD := ⟨("Post", some "taken"), "taken", "Post.taken", defArgs sP_taken, defBody sP_taken, defScope sP_taken, [], []⟩
def dW_init : He.DefD := ⟨("World", some "__init__"), "__init__", "World.__init__", defArgs sW_init, defBody sW_init, defScope sW_init, [], []⟩
def dW_house : He.DefD := ⟨("World", some "house"), "house", "World.house", defArgs sW_house, defBody sW_house, defScope sW_house, [], []⟩
def dW_state : He.DefD := ⟨("World", some "state"), "state", "World.state", defArgs sW_state, defBody sW_state, defScope sW_state, [], []⟩
def dW_letters : He.DefD := ⟨("World", some "letters"), "letters", "World.letters", defArgs sW_letters, defBody sW_letters, defScope sW_letters, [], []⟩
def dW_inquiry : He.DefD := ⟨("World", some "inquiry"), "inquiry", "World.inquiry", defArgs sW_inquiry, defBody sW_inquiry, defScope sW_inquiry, [], []⟩
def dW_make : He.DefD := ⟨("World", some "make"), "make", "World.make", defArgs sW_make, defBody sW_make, defScope sW_make, [], []⟩
def dW_hold : He.DefD := ⟨("World", some "hold"), "hold", "World.hold", defArgs sW_hold, defBody sW_hold, defScope sW_hold, [], []⟩
def dW_drop : He.DefD := ⟨("World", some "drop"), "drop", "World.drop", defArgs sW_drop, defBody sW_drop, defScope sW_drop, [], []⟩
def dW_take : He.DefD := ⟨("World", some "take"), "take", "World.take", defArgs sW_take, defBody sW_take, defScope sW_take, [], []⟩
def dW_free : He.DefD := ⟨("World", some "free"), "free", "World.free", defArgs sW_free, defBody sW_free, defScope sW_free, [], []⟩
def dW_send : He.DefD := ⟨("World", some "send"), "send", "World.send", defArgs sW_send, defBody sW_send, defScope sW_send, [], []⟩
def dW_backs : He.DefD := ⟨("World", some "backs"), "backs", "World.backs", defArgs sW_backs, defBody sW_backs, defScope sW_backs, [], []⟩
def dW_clean : He.DefD := ⟨("World", some "clean"), "clean", "World.clean", defArgs sW_clean, defBody sW_clean, defScope sW_clean, [], []⟩
def dW_asks : He.DefD := ⟨("World", some "asks"), "asks", "World.asks", defArgs sW_asks, defBody sW_asks, defScope sW_asks, [], []⟩
def dW_ask : He.DefD := ⟨("World", some "ask"), "ask", "World.ask", defArgs sW_ask, defBody sW_ask, defScope sW_ask, [], []⟩
def dW_answered : He.DefD := ⟨("World", some "answered"), "answered", "World.answered", defArgs sW_answered, defBody sW_answered, defScope sW_answered, [], []⟩
def dW_heard : He.DefD := ⟨("World", some "heard"), "heard", "World.heard", defArgs sW_heard, defBody sW_heard, defScope sW_heard, [], []⟩
def dW_lets : He.DefD := ⟨("World", some "lets"), "lets", "World.lets", defArgs sW_lets, defBody sW_lets, defScope sW_lets, [], []⟩
def dW_passed : He.DefD := ⟨("World", some "passed"), "passed", "World.passed", defArgs sW_passed, defBody sW_passed, defScope sW_passed, [], []⟩
def dW_deliver : He.DefD := ⟨("World", some "deliver"), "deliver", "World.deliver", defArgs sW_deliver, defBody sW_deliver, defScope sW_deliver, [], []⟩
def d_number_of : He.DefD := ⟨("number_of", none), "number_of", "number_of", defArgs s_number_of, defBody s_number_of, defScope s_number_of, [], []⟩
def d_thing_of : He.DefD := ⟨("thing_of", none), "thing_of", "thing_of", defArgs s_thing_of, defBody s_thing_of, defScope s_thing_of, [], []⟩
def d_read_by : He.DefD := ⟨("read_by", none), "read_by", "read_by", defArgs s_read_by, defBody s_read_by, defScope s_read_by, [], []⟩
def d_thing_text : He.DefD := ⟨("thing_text", none), "thing_text", "thing_text", defArgs s_thing_text, defBody s_thing_text, defScope s_thing_text, [], []⟩
def d_listed : He.DefD := ⟨("listed", none), "listed", "listed", defArgs s_listed, defBody s_listed, defScope s_listed, [], []⟩
def d_letter_text : He.DefD := ⟨("letter_text", none), "letter_text", "letter_text", defArgs s_letter_text, defBody s_letter_text, defScope s_letter_text, [], []⟩
def dD_init : He.DefD := ⟨("Desk", some "__init__"), "__init__", "Desk.__init__", defArgs sD_init, defBody sD_init, defScope sD_init, [], []⟩
def dD_say : He.DefD := ⟨("Desk", some "say"), "say", "Desk.say", defArgs sD_say, defBody sD_say, defScope sD_say, [], []⟩
def dD_deed : He.DefD := ⟨("Desk", some "deed"), "deed", "Desk.deed", defArgs sD_deed, defBody sD_deed, defScope sD_deed, [], []⟩
def dD_by_letters : He.DefD := ⟨("Desk", some "by_letters"), "by_letters", "Desk.by_letters", defArgs sD_by_letters, defBody sD_by_letters, defScope sD_by_letters, [], []⟩
def dD_told : He.DefD := ⟨("Desk", some "told"), "told", "Desk.told", defArgs sD_told, defBody sD_told, defScope sD_told, [], []⟩
def dD_holds : He.DefD := ⟨("Desk", some "holds"), "holds", "Desk.holds", defArgs sD_holds, defBody sD_holds, defScope sD_holds, [], []⟩
def d_l_cell : He.DefD := ⟨("_law_cell", none), "_law_cell", "_law_cell", defArgs s_l_cell, defBody s_l_cell, defScope s_l_cell, [], []⟩
def d_l_stream : He.DefD := ⟨("_law_stream", none), "_law_stream", "_law_stream", defArgs s_l_stream, defBody s_l_stream, defScope s_l_stream, [], []⟩
def d_l_class : He.DefD := ⟨("_law_class", none), "_law_class", "_law_class", defArgs s_l_class, defBody s_l_class, defScope s_l_class, [], []⟩
def d_l_pick : He.DefD := ⟨("_law_pick", none), "_law_pick", "_law_pick", defArgs s_l_pick, defBody s_l_pick, defScope s_l_pick, [], []⟩
def d_l_held_by : He.DefD := ⟨("_law_held_by", none), "_law_held_by", "_law_held_by", defArgs s_l_held_by, defBody s_l_held_by, defScope s_l_held_by, [], []⟩
def d_l_come : He.DefD := ⟨("_law_come", none), "_law_come", "_law_come", defArgs s_l_come, defBody s_l_come, defScope s_l_come, [], []⟩
def d_l_deed : He.DefD := ⟨("_law_deed", none), "_law_deed", "_law_deed", defArgs s_l_deed, defBody s_l_deed, defScope s_l_deed, [], []⟩
def d_l_done : He.DefD := ⟨("_law_done", none), "_law_done", "_law_done", defArgs s_l_done, defBody s_l_done, defScope s_l_done, [], []⟩
def d_l_thing : He.DefD := ⟨("_law_thing", none), "_law_thing", "_law_thing", defArgs s_l_thing, defBody s_l_thing, defScope s_l_thing, [], []⟩
def d_l_listed : He.DefD := ⟨("_law_listed", none), "_law_listed", "_law_listed", defArgs s_l_listed, defBody s_l_listed, defScope s_l_listed, [], []⟩
def d_l_say : He.DefD := ⟨("_law_say", none), "_law_say", "_law_say", defArgs s_l_say, defBody s_l_say, defScope s_l_say, [], []⟩
def d_l_row_of : He.DefD := ⟨("_law_row_of", none), "_law_row_of", "_law_row_of", defArgs s_l_row_of, defBody s_l_row_of, defScope s_l_row_of, [], []⟩
def d_l_things_of : He.DefD := ⟨("_law_things_of", none), "_law_things_of", "_law_things_of", defArgs s_l_things_of, defBody s_l_things_of, defScope s_l_things_of, [], []⟩
def d_l_holds_of : He.DefD := ⟨("_law_holds_of", none), "_law_holds_of", "_law_holds_of", defArgs s_l_holds_of, defBody s_l_holds_of, defScope s_l_holds_of, [], []⟩
def d_l_ask : He.DefD := ⟨("_law_ask", none), "_law_ask", "_law_ask", defArgs s_l_ask, defBody s_l_ask, defScope s_l_ask, [], []⟩
def d_l_due : He.DefD := ⟨("_law_due", none), "_law_due", "_law_due", defArgs s_l_due, defBody s_l_due, defScope s_l_due, [], []⟩
def d_law : He.DefD := ⟨("law", none), "law", "law", defArgs s_law, defBody s_law, defScope s_law, [], []⟩
def fn0 : List He.DefD := [d_parted, d_near_reach, dH_init, dH_tick, dH_state, dH_need, dH_held_by, dH_make, dH_hold, dH_drop, dH_take, dH_free, dH_is_last, dH_part, dH_came, dH_added, dH_given, dH_passed, dH_gone, dH_given_back]
def fn1 : List He.DefD := [dH_clean, dH_let, d_outs_of, d_holds_of, d_recorded, d_roots_of, d_reached_from, d_unreached, dQ_init, dQ_first, dQ_second, dQ_still, dQ_result, dP_init, dP_put, dP_letters, dP_taken, dW_init, dW_house, dW_state]
def fn2 : List He.DefD := [dW_letters, dW_inquiry, dW_make, dW_hold, dW_drop, dW_take, dW_free, dW_send, dW_backs, dW_clean, dW_asks, dW_ask, dW_answered, dW_heard, dW_lets, dW_passed, dW_deliver, d_number_of, d_thing_of, d_read_by]
def fn3 : List He.DefD := [d_thing_text, d_listed, d_letter_text, dD_init, dD_say, dD_deed, dD_by_letters, dD_told, dD_holds, d_l_cell, d_l_stream, d_l_class, d_l_pick, d_l_held_by, d_l_come, d_l_deed, d_l_done, d_l_thing, d_l_listed, d_l_say]
def fn4 : List He.DefD := [d_l_row_of, d_l_things_of, d_l_holds_of, d_l_ask, d_l_due, d_law]
def fn : List He.DefD := fn0 ++ (fn1 ++ (fn2 ++ (fn3 ++ (fn4))))
def fa0 : List He.Fa := [.glo "HoldError", .glo "NoHouse", .glo "NotHeld", .glo "NotNear", .glo "Missing", .glo "NoWeight", .glo "NoLetter", .glo "NoInquiry", .glo "NoRow", .glo "parted", .glo "near_reach", .glo "House", .glo "outs_of", .glo "holds_of", .glo "recorded", .glo "roots_of", .glo "reached_from", .glo "unreached", .glo "Inquiry", .glo "Post", .glo "World", .glo "number_of", .glo "thing_of", .glo "read_by", .glo "thing_text", .glo "listed", .glo "letter_text", .glo "Desk", .glo "_law_cell", .glo "_law_stream"]
def fa1 : List He.Fa := [.glo "_law_class", .glo "_law_pick", .glo "_law_held_by", .glo "_law_come", .glo "_law_deed", .glo "_law_done", .glo "_law_thing", .glo "_law_listed", .glo "_law_say", .glo "_law_row_of", .glo "_law_things_of", .glo "_law_holds_of", .glo "_law_ask", .glo "_law_due", .glo "law", .str "FIGURES" "0123456789", .int "MOST_FIGURES" 9, .free "list", .free "sorted", .free "dict", .free "tuple", .free "len", .free "range", .free "int", .free "str", .free "zip", .free "isinstance", .free "max", .free "min", .free "ValueError"]
def fa2 : List He.Fa := [.cls "House", .mkr "House", .noat "House" "number", .noat "House" "made", .noat "House" "ticks", .noat "House" "hand", .noat "House" "holding", .noat "House" "outs", .noat "House" "records", .meth "House" "tick", .meth "House" "state", .meth "House" "need", .meth "House" "held_by", .meth "House" "make", .meth "House" "hold", .meth "House" "drop", .meth "House" "take", .meth "House" "free", .meth "House" "is_last", .meth "House" "part", .meth "House" "came", .meth "House" "added", .meth "House" "given", .meth "House" "passed", .meth "House" "gone", .meth "House" "given_back", .meth "House" "clean", .meth "House" "let", .cls "Inquiry", .mkr "Inquiry"]
def fa3 : List He.Fa := [.noat "Inquiry" "many", .noat "Inquiry" "ticks", .noat "Inquiry" "states", .noat "Inquiry" "again", .meth "Inquiry" "first", .meth "Inquiry" "second", .meth "Inquiry" "still", .meth "Inquiry" "result", .cls "Post", .mkr "Post", .noat "Post" "last", .noat "Post" "lying", .meth "Post" "put", .meth "Post" "letters", .meth "Post" "taken", .cls "World", .mkr "World", .noat "World" "share", .noat "World" "houses", .noat "World" "post", .noat "World" "asked", .noat "World" "answers", .noat "World" "done", .meth "World" "house", .meth "World" "state", .meth "World" "letters", .meth "World" "inquiry", .meth "World" "make", .meth "World" "hold", .meth "World" "drop"]
def fa4 : List He.Fa := [.meth "World" "take", .meth "World" "free", .meth "World" "send", .meth "World" "backs", .meth "World" "clean", .meth "World" "asks", .meth "World" "ask", .meth "World" "answered", .meth "World" "heard", .meth "World" "lets", .meth "World" "passed", .meth "World" "deliver", .cls "Desk", .mkr "Desk", .noat "Desk" "world", .meth "Desk" "say", .meth "Desk" "deed", .meth "Desk" "by_letters", .meth "Desk" "told", .meth "Desk" "holds", .exc "NoHouse", .exm "NoHouse" "HoldError" true, .exc "NotHeld", .exm "NotHeld" "HoldError" true, .exc "NotNear", .exm "NotNear" "HoldError" true, .exc "Missing", .exm "Missing" "HoldError" true, .exc "NoWeight", .exm "NoWeight" "HoldError" true]
def fa5 : List He.Fa := [.exc "NoLetter", .exm "NoLetter" "HoldError" true, .exc "NoInquiry", .exm "NoInquiry" "HoldError" true, .exc "NoRow", .exm "NoRow" "HoldError" true, .keep "parted", .keep "near_reach", .keep "outs_of", .keep "holds_of", .keep "recorded", .keep "roots_of", .keep "reached_from", .keep "unreached", .keep "number_of", .keep "thing_of", .keep "read_by", .keep "thing_text", .keep "listed", .keep "letter_text", .keep "_law_cell", .keep "_law_stream", .keep "_law_class", .keep "_law_pick", .keep "_law_held_by", .keep "_law_come", .keep "_law_deed", .keep "_law_done", .keep "_law_thing", .keep "_law_listed"]
def fa6 : List He.Fa := [.keep "_law_say", .keep "_law_row_of", .keep "_law_things_of", .keep "_law_holds_of", .keep "_law_ask", .keep "_law_due", .keep "law"]
def fa : List He.Fa := fa0 ++ (fa1 ++ (fa2 ++ (fa3 ++ (fa4 ++ (fa5 ++ (fa6))))))
def excNames : List Str := ["NoHouse", "NotHeld", "NotNear", "Missing", "NoWeight", "NoLetter", "NoInquiry", "NoRow"]
structure Tx (K : PySem.W.Frag) (mg : Str → Option Value) : Prop where
  says : He.SaysD fa fn K
  glo : ∀ x u, PySem.W.nsIn K mainGlobals x = some u → mg x = u
  figures : ∃ t, mg "FIGURES" = some (.str "0123456789" t)
  most : ∃ t, mg "MOST_FIGURES" = some (.int 9 t)
theorem Tx.of {K : PySem.W.Frag} {mg : Str → Option Value} {h : Heap} (X : K.In h) (G : h.Ns mainGlobals mg) (c : He.SaysD fa fn K) : Tx K mg := ⟨c, fun x u e => by cases u with | none => exact PySem.W.mg_none_of X G e | some v => exact PySem.W.mg_of X G e, He.str_ok X G (c.fact 45 (f := .str "FIGURES" "0123456789") rfl), He.int_ok X G (c.fact 46 (f := .int "MOST_FIGURES" 9) rfl)⟩
section
variable {K : PySem.W.Frag} {mg : Str → Option Value}
theorem Tx.fact (T : Tx K mg) (i : Nat) {f : He.Fa} (h : fa[i]? = some f) : f.ok K = true := T.says.fact i h
theorem Tx.g_HoldError (T : Tx K mg) : mg "HoldError" = some (.ref (He.ga K "HoldError")) := T.glo _ _ (He.eqO_ok (T.fact 0 (f := .glo "HoldError") rfl))
theorem Tx.g_NoHouse (T : Tx K mg) : mg "NoHouse" = some (.ref (He.ga K "NoHouse")) := T.glo _ _ (He.eqO_ok (T.fact 1 (f := .glo "NoHouse") rfl))
theorem Tx.g_NotHeld (T : Tx K mg) : mg "NotHeld" = some (.ref (He.ga K "NotHeld")) := T.glo _ _ (He.eqO_ok (T.fact 2 (f := .glo "NotHeld") rfl))
theorem Tx.g_NotNear (T : Tx K mg) : mg "NotNear" = some (.ref (He.ga K "NotNear")) := T.glo _ _ (He.eqO_ok (T.fact 3 (f := .glo "NotNear") rfl))
theorem Tx.g_Missing (T : Tx K mg) : mg "Missing" = some (.ref (He.ga K "Missing")) := T.glo _ _ (He.eqO_ok (T.fact 4 (f := .glo "Missing") rfl))
theorem Tx.g_NoWeight (T : Tx K mg) : mg "NoWeight" = some (.ref (He.ga K "NoWeight")) := T.glo _ _ (He.eqO_ok (T.fact 5 (f := .glo "NoWeight") rfl))
theorem Tx.g_NoLetter (T : Tx K mg) : mg "NoLetter" = some (.ref (He.ga K "NoLetter")) := T.glo _ _ (He.eqO_ok (T.fact 6 (f := .glo "NoLetter") rfl))
theorem Tx.g_NoInquiry (T : Tx K mg) : mg "NoInquiry" = some (.ref (He.ga K "NoInquiry")) := T.glo _ _ (He.eqO_ok (T.fact 7 (f := .glo "NoInquiry") rfl))
theorem Tx.g_NoRow (T : Tx K mg) : mg "NoRow" = some (.ref (He.ga K "NoRow")) := T.glo _ _ (He.eqO_ok (T.fact 8 (f := .glo "NoRow") rfl))
theorem Tx.g_parted (T : Tx K mg) : mg "parted" = some (.ref (He.ga K "parted")) := T.glo _ _ (He.eqO_ok (T.fact 9 (f := .glo "parted") rfl))
theorem Tx.g_near_reach (T : Tx K mg) : mg "near_reach" = some (.ref (He.ga K "near_reach")) := T.glo _ _ (He.eqO_ok (T.fact 10 (f := .glo "near_reach") rfl))
theorem Tx.g_House (T : Tx K mg) : mg "House" = some (.ref (He.ga K "House")) := T.glo _ _ (He.eqO_ok (T.fact 11 (f := .glo "House") rfl))
theorem Tx.g_outs_of (T : Tx K mg) : mg "outs_of" = some (.ref (He.ga K "outs_of")) := T.glo _ _ (He.eqO_ok (T.fact 12 (f := .glo "outs_of") rfl))
theorem Tx.g_holds_of (T : Tx K mg) : mg "holds_of" = some (.ref (He.ga K "holds_of")) := T.glo _ _ (He.eqO_ok (T.fact 13 (f := .glo "holds_of") rfl))
theorem Tx.g_recorded (T : Tx K mg) : mg "recorded" = some (.ref (He.ga K "recorded")) := T.glo _ _ (He.eqO_ok (T.fact 14 (f := .glo "recorded") rfl))
theorem Tx.g_roots_of (T : Tx K mg) : mg "roots_of" = some (.ref (He.ga K "roots_of")) := T.glo _ _ (He.eqO_ok (T.fact 15 (f := .glo "roots_of") rfl))
theorem Tx.g_reached_from (T : Tx K mg) : mg "reached_from" = some (.ref (He.ga K "reached_from")) := T.glo _ _ (He.eqO_ok (T.fact 16 (f := .glo "reached_from") rfl))
theorem Tx.g_unreached (T : Tx K mg) : mg "unreached" = some (.ref (He.ga K "unreached")) := T.glo _ _ (He.eqO_ok (T.fact 17 (f := .glo "unreached") rfl))
theorem Tx.g_Inquiry (T : Tx K mg) : mg "Inquiry" = some (.ref (He.ga K "Inquiry")) := T.glo _ _ (He.eqO_ok (T.fact 18 (f := .glo "Inquiry") rfl))
theorem Tx.g_Post (T : Tx K mg) : mg "Post" = some (.ref (He.ga K "Post")) := T.glo _ _ (He.eqO_ok (T.fact 19 (f := .glo "Post") rfl))
theorem Tx.g_World (T : Tx K mg) : mg "World" = some (.ref (He.ga K "World")) := T.glo _ _ (He.eqO_ok (T.fact 20 (f := .glo "World") rfl))
theorem Tx.g_number_of (T : Tx K mg) : mg "number_of" = some (.ref (He.ga K "number_of")) := T.glo _ _ (He.eqO_ok (T.fact 21 (f := .glo "number_of") rfl))
theorem Tx.g_thing_of (T : Tx K mg) : mg "thing_of" = some (.ref (He.ga K "thing_of")) := T.glo _ _ (He.eqO_ok (T.fact 22 (f := .glo "thing_of") rfl))
theorem Tx.g_read_by (T : Tx K mg) : mg "read_by" = some (.ref (He.ga K "read_by")) := T.glo _ _ (He.eqO_ok (T.fact 23 (f := .glo "read_by") rfl))
theorem Tx.g_thing_text (T : Tx K mg) : mg "thing_text" = some (.ref (He.ga K "thing_text")) := T.glo _ _ (He.eqO_ok (T.fact 24 (f := .glo "thing_text") rfl))
theorem Tx.g_listed (T : Tx K mg) : mg "listed" = some (.ref (He.ga K "listed")) := T.glo _ _ (He.eqO_ok (T.fact 25 (f := .glo "listed") rfl))
theorem Tx.g_letter_text (T : Tx K mg) : mg "letter_text" = some (.ref (He.ga K "letter_text")) := T.glo _ _ (He.eqO_ok (T.fact 26 (f := .glo "letter_text") rfl))
theorem Tx.g_Desk (T : Tx K mg) : mg "Desk" = some (.ref (He.ga K "Desk")) := T.glo _ _ (He.eqO_ok (T.fact 27 (f := .glo "Desk") rfl))
theorem Tx.g_law_cell (T : Tx K mg) : mg "_law_cell" = some (.ref (He.ga K "_law_cell")) := T.glo _ _ (He.eqO_ok (T.fact 28 (f := .glo "_law_cell") rfl))
theorem Tx.g_law_stream (T : Tx K mg) : mg "_law_stream" = some (.ref (He.ga K "_law_stream")) := T.glo _ _ (He.eqO_ok (T.fact 29 (f := .glo "_law_stream") rfl))
theorem Tx.g_law_class (T : Tx K mg) : mg "_law_class" = some (.ref (He.ga K "_law_class")) := T.glo _ _ (He.eqO_ok (T.fact 30 (f := .glo "_law_class") rfl))
theorem Tx.g_law_pick (T : Tx K mg) : mg "_law_pick" = some (.ref (He.ga K "_law_pick")) := T.glo _ _ (He.eqO_ok (T.fact 31 (f := .glo "_law_pick") rfl))
theorem Tx.g_law_held_by (T : Tx K mg) : mg "_law_held_by" = some (.ref (He.ga K "_law_held_by")) := T.glo _ _ (He.eqO_ok (T.fact 32 (f := .glo "_law_held_by") rfl))
theorem Tx.g_law_come (T : Tx K mg) : mg "_law_come" = some (.ref (He.ga K "_law_come")) := T.glo _ _ (He.eqO_ok (T.fact 33 (f := .glo "_law_come") rfl))
theorem Tx.g_law_deed (T : Tx K mg) : mg "_law_deed" = some (.ref (He.ga K "_law_deed")) := T.glo _ _ (He.eqO_ok (T.fact 34 (f := .glo "_law_deed") rfl))
theorem Tx.g_law_done (T : Tx K mg) : mg "_law_done" = some (.ref (He.ga K "_law_done")) := T.glo _ _ (He.eqO_ok (T.fact 35 (f := .glo "_law_done") rfl))
theorem Tx.g_law_thing (T : Tx K mg) : mg "_law_thing" = some (.ref (He.ga K "_law_thing")) := T.glo _ _ (He.eqO_ok (T.fact 36 (f := .glo "_law_thing") rfl))
theorem Tx.g_law_listed (T : Tx K mg) : mg "_law_listed" = some (.ref (He.ga K "_law_listed")) := T.glo _ _ (He.eqO_ok (T.fact 37 (f := .glo "_law_listed") rfl))
theorem Tx.g_law_say (T : Tx K mg) : mg "_law_say" = some (.ref (He.ga K "_law_say")) := T.glo _ _ (He.eqO_ok (T.fact 38 (f := .glo "_law_say") rfl))
theorem Tx.g_law_row_of (T : Tx K mg) : mg "_law_row_of" = some (.ref (He.ga K "_law_row_of")) := T.glo _ _ (He.eqO_ok (T.fact 39 (f := .glo "_law_row_of") rfl))
theorem Tx.g_law_things_of (T : Tx K mg) : mg "_law_things_of" = some (.ref (He.ga K "_law_things_of")) := T.glo _ _ (He.eqO_ok (T.fact 40 (f := .glo "_law_things_of") rfl))
theorem Tx.g_law_holds_of (T : Tx K mg) : mg "_law_holds_of" = some (.ref (He.ga K "_law_holds_of")) := T.glo _ _ (He.eqO_ok (T.fact 41 (f := .glo "_law_holds_of") rfl))
theorem Tx.g_law_ask (T : Tx K mg) : mg "_law_ask" = some (.ref (He.ga K "_law_ask")) := T.glo _ _ (He.eqO_ok (T.fact 42 (f := .glo "_law_ask") rfl))
theorem Tx.g_law_due (T : Tx K mg) : mg "_law_due" = some (.ref (He.ga K "_law_due")) := T.glo _ _ (He.eqO_ok (T.fact 43 (f := .glo "_law_due") rfl))
theorem Tx.g_law (T : Tx K mg) : mg "law" = some (.ref (He.ga K "law")) := T.glo _ _ (He.eqO_ok (T.fact 44 (f := .glo "law") rfl))
theorem Tx.f_list (T : Tx K mg) : mg "list" = none := T.glo _ _ (He.eqO_ok (T.fact 47 (f := .free "list") rfl))
theorem Tx.f_sorted (T : Tx K mg) : mg "sorted" = none := T.glo _ _ (He.eqO_ok (T.fact 48 (f := .free "sorted") rfl))
theorem Tx.f_dict (T : Tx K mg) : mg "dict" = none := T.glo _ _ (He.eqO_ok (T.fact 49 (f := .free "dict") rfl))
theorem Tx.f_tuple (T : Tx K mg) : mg "tuple" = none := T.glo _ _ (He.eqO_ok (T.fact 50 (f := .free "tuple") rfl))
theorem Tx.f_len (T : Tx K mg) : mg "len" = none := T.glo _ _ (He.eqO_ok (T.fact 51 (f := .free "len") rfl))
theorem Tx.f_range (T : Tx K mg) : mg "range" = none := T.glo _ _ (He.eqO_ok (T.fact 52 (f := .free "range") rfl))
theorem Tx.f_int (T : Tx K mg) : mg "int" = none := T.glo _ _ (He.eqO_ok (T.fact 53 (f := .free "int") rfl))
theorem Tx.f_str (T : Tx K mg) : mg "str" = none := T.glo _ _ (He.eqO_ok (T.fact 54 (f := .free "str") rfl))
theorem Tx.f_zip (T : Tx K mg) : mg "zip" = none := T.glo _ _ (He.eqO_ok (T.fact 55 (f := .free "zip") rfl))
theorem Tx.f_isinstance (T : Tx K mg) : mg "isinstance" = none := T.glo _ _ (He.eqO_ok (T.fact 56 (f := .free "isinstance") rfl))
theorem Tx.f_max (T : Tx K mg) : mg "max" = none := T.glo _ _ (He.eqO_ok (T.fact 57 (f := .free "max") rfl))
theorem Tx.f_min (T : Tx K mg) : mg "min" = none := T.glo _ _ (He.eqO_ok (T.fact 58 (f := .free "min") rfl))
theorem Tx.f_ValueError (T : Tx K mg) : mg "ValueError" = none := T.glo _ _ (He.eqO_ok (T.fact 59 (f := .free "ValueError") rfl))
theorem Tx.c_House (T : Tx K mg) : Cls K (He.ga K "House") := He.cls_ok (T.fact 60 (f := .cls "House") rfl)
theorem Tx.k_House (T : Tx K mg) : Mk K (He.ga K "House") (He.ma K (He.ga K "House") "__init__") := He.mkr_ok (T.fact 61 (f := .mkr "House") rfl)
theorem Tx.n_House_number (T : Tx K mg) : NoAttr K (He.ga K "House") "number" := He.noat_ok (T.fact 62 (f := .noat "House" "number") rfl)
theorem Tx.n_House_made (T : Tx K mg) : NoAttr K (He.ga K "House") "made" := He.noat_ok (T.fact 63 (f := .noat "House" "made") rfl)
theorem Tx.n_House_ticks (T : Tx K mg) : NoAttr K (He.ga K "House") "ticks" := He.noat_ok (T.fact 64 (f := .noat "House" "ticks") rfl)
theorem Tx.n_House_hand (T : Tx K mg) : NoAttr K (He.ga K "House") "hand" := He.noat_ok (T.fact 65 (f := .noat "House" "hand") rfl)
theorem Tx.n_House_holding (T : Tx K mg) : NoAttr K (He.ga K "House") "holding" := He.noat_ok (T.fact 66 (f := .noat "House" "holding") rfl)
theorem Tx.n_House_outs (T : Tx K mg) : NoAttr K (He.ga K "House") "outs" := He.noat_ok (T.fact 67 (f := .noat "House" "outs") rfl)
theorem Tx.n_House_records (T : Tx K mg) : NoAttr K (He.ga K "House") "records" := He.noat_ok (T.fact 68 (f := .noat "House" "records") rfl)
theorem Tx.m_House_tick (T : Tx K mg) : Meth K (He.ga K "House") "tick" (He.ma K (He.ga K "House") "tick") := He.meth_ok (T.fact 69 (f := .meth "House" "tick") rfl)
theorem Tx.m_House_state (T : Tx K mg) : Meth K (He.ga K "House") "state" (He.ma K (He.ga K "House") "state") := He.meth_ok (T.fact 70 (f := .meth "House" "state") rfl)
theorem Tx.m_House_need (T : Tx K mg) : Meth K (He.ga K "House") "need" (He.ma K (He.ga K "House") "need") := He.meth_ok (T.fact 71 (f := .meth "House" "need") rfl)
theorem Tx.m_House_held_by (T : Tx K mg) : Meth K (He.ga K "House") "held_by" (He.ma K (He.ga K "House") "held_by") := He.meth_ok (T.fact 72 (f := .meth "House" "held_by") rfl)
theorem Tx.m_House_make (T : Tx K mg) : Meth K (He.ga K "House") "make" (He.ma K (He.ga K "House") "make") := He.meth_ok (T.fact 73 (f := .meth "House" "make") rfl)
theorem Tx.m_House_hold (T : Tx K mg) : Meth K (He.ga K "House") "hold" (He.ma K (He.ga K "House") "hold") := He.meth_ok (T.fact 74 (f := .meth "House" "hold") rfl)
theorem Tx.m_House_drop (T : Tx K mg) : Meth K (He.ga K "House") "drop" (He.ma K (He.ga K "House") "drop") := He.meth_ok (T.fact 75 (f := .meth "House" "drop") rfl)
theorem Tx.m_House_take (T : Tx K mg) : Meth K (He.ga K "House") "take" (He.ma K (He.ga K "House") "take") := He.meth_ok (T.fact 76 (f := .meth "House" "take") rfl)
theorem Tx.m_House_free (T : Tx K mg) : Meth K (He.ga K "House") "free" (He.ma K (He.ga K "House") "free") := He.meth_ok (T.fact 77 (f := .meth "House" "free") rfl)
theorem Tx.m_House_is_last (T : Tx K mg) : Meth K (He.ga K "House") "is_last" (He.ma K (He.ga K "House") "is_last") := He.meth_ok (T.fact 78 (f := .meth "House" "is_last") rfl)
theorem Tx.m_House_part (T : Tx K mg) : Meth K (He.ga K "House") "part" (He.ma K (He.ga K "House") "part") := He.meth_ok (T.fact 79 (f := .meth "House" "part") rfl)
theorem Tx.m_House_came (T : Tx K mg) : Meth K (He.ga K "House") "came" (He.ma K (He.ga K "House") "came") := He.meth_ok (T.fact 80 (f := .meth "House" "came") rfl)
theorem Tx.m_House_added (T : Tx K mg) : Meth K (He.ga K "House") "added" (He.ma K (He.ga K "House") "added") := He.meth_ok (T.fact 81 (f := .meth "House" "added") rfl)
theorem Tx.m_House_given (T : Tx K mg) : Meth K (He.ga K "House") "given" (He.ma K (He.ga K "House") "given") := He.meth_ok (T.fact 82 (f := .meth "House" "given") rfl)
theorem Tx.m_House_passed (T : Tx K mg) : Meth K (He.ga K "House") "passed" (He.ma K (He.ga K "House") "passed") := He.meth_ok (T.fact 83 (f := .meth "House" "passed") rfl)
theorem Tx.m_House_gone (T : Tx K mg) : Meth K (He.ga K "House") "gone" (He.ma K (He.ga K "House") "gone") := He.meth_ok (T.fact 84 (f := .meth "House" "gone") rfl)
theorem Tx.m_House_given_back (T : Tx K mg) : Meth K (He.ga K "House") "given_back" (He.ma K (He.ga K "House") "given_back") := He.meth_ok (T.fact 85 (f := .meth "House" "given_back") rfl)
theorem Tx.m_House_clean (T : Tx K mg) : Meth K (He.ga K "House") "clean" (He.ma K (He.ga K "House") "clean") := He.meth_ok (T.fact 86 (f := .meth "House" "clean") rfl)
theorem Tx.m_House_let (T : Tx K mg) : Meth K (He.ga K "House") "let" (He.ma K (He.ga K "House") "let") := He.meth_ok (T.fact 87 (f := .meth "House" "let") rfl)
theorem Tx.c_Inquiry (T : Tx K mg) : Cls K (He.ga K "Inquiry") := He.cls_ok (T.fact 88 (f := .cls "Inquiry") rfl)
theorem Tx.k_Inquiry (T : Tx K mg) : Mk K (He.ga K "Inquiry") (He.ma K (He.ga K "Inquiry") "__init__") := He.mkr_ok (T.fact 89 (f := .mkr "Inquiry") rfl)
theorem Tx.n_Inquiry_many (T : Tx K mg) : NoAttr K (He.ga K "Inquiry") "many" := He.noat_ok (T.fact 90 (f := .noat "Inquiry" "many") rfl)
theorem Tx.n_Inquiry_ticks (T : Tx K mg) : NoAttr K (He.ga K "Inquiry") "ticks" := He.noat_ok (T.fact 91 (f := .noat "Inquiry" "ticks") rfl)
theorem Tx.n_Inquiry_states (T : Tx K mg) : NoAttr K (He.ga K "Inquiry") "states" := He.noat_ok (T.fact 92 (f := .noat "Inquiry" "states") rfl)
theorem Tx.n_Inquiry_again (T : Tx K mg) : NoAttr K (He.ga K "Inquiry") "again" := He.noat_ok (T.fact 93 (f := .noat "Inquiry" "again") rfl)
theorem Tx.m_Inquiry_first (T : Tx K mg) : Meth K (He.ga K "Inquiry") "first" (He.ma K (He.ga K "Inquiry") "first") := He.meth_ok (T.fact 94 (f := .meth "Inquiry" "first") rfl)
theorem Tx.m_Inquiry_second (T : Tx K mg) : Meth K (He.ga K "Inquiry") "second" (He.ma K (He.ga K "Inquiry") "second") := He.meth_ok (T.fact 95 (f := .meth "Inquiry" "second") rfl)
theorem Tx.m_Inquiry_still (T : Tx K mg) : Meth K (He.ga K "Inquiry") "still" (He.ma K (He.ga K "Inquiry") "still") := He.meth_ok (T.fact 96 (f := .meth "Inquiry" "still") rfl)
theorem Tx.m_Inquiry_result (T : Tx K mg) : Meth K (He.ga K "Inquiry") "result" (He.ma K (He.ga K "Inquiry") "result") := He.meth_ok (T.fact 97 (f := .meth "Inquiry" "result") rfl)
theorem Tx.c_Post (T : Tx K mg) : Cls K (He.ga K "Post") := He.cls_ok (T.fact 98 (f := .cls "Post") rfl)
theorem Tx.k_Post (T : Tx K mg) : Mk K (He.ga K "Post") (He.ma K (He.ga K "Post") "__init__") := He.mkr_ok (T.fact 99 (f := .mkr "Post") rfl)
theorem Tx.n_Post_last (T : Tx K mg) : NoAttr K (He.ga K "Post") "last" := He.noat_ok (T.fact 100 (f := .noat "Post" "last") rfl)
theorem Tx.n_Post_lying (T : Tx K mg) : NoAttr K (He.ga K "Post") "lying" := He.noat_ok (T.fact 101 (f := .noat "Post" "lying") rfl)
theorem Tx.m_Post_put (T : Tx K mg) : Meth K (He.ga K "Post") "put" (He.ma K (He.ga K "Post") "put") := He.meth_ok (T.fact 102 (f := .meth "Post" "put") rfl)
theorem Tx.m_Post_letters (T : Tx K mg) : Meth K (He.ga K "Post") "letters" (He.ma K (He.ga K "Post") "letters") := He.meth_ok (T.fact 103 (f := .meth "Post" "letters") rfl)
theorem Tx.m_Post_taken (T : Tx K mg) : Meth K (He.ga K "Post") "taken" (He.ma K (He.ga K "Post") "taken") := He.meth_ok (T.fact 104 (f := .meth "Post" "taken") rfl)
theorem Tx.c_World (T : Tx K mg) : Cls K (He.ga K "World") := He.cls_ok (T.fact 105 (f := .cls "World") rfl)
theorem Tx.k_World (T : Tx K mg) : Mk K (He.ga K "World") (He.ma K (He.ga K "World") "__init__") := He.mkr_ok (T.fact 106 (f := .mkr "World") rfl)
theorem Tx.n_World_share (T : Tx K mg) : NoAttr K (He.ga K "World") "share" := He.noat_ok (T.fact 107 (f := .noat "World" "share") rfl)
theorem Tx.n_World_houses (T : Tx K mg) : NoAttr K (He.ga K "World") "houses" := He.noat_ok (T.fact 108 (f := .noat "World" "houses") rfl)
theorem Tx.n_World_post (T : Tx K mg) : NoAttr K (He.ga K "World") "post" := He.noat_ok (T.fact 109 (f := .noat "World" "post") rfl)
theorem Tx.n_World_asked (T : Tx K mg) : NoAttr K (He.ga K "World") "asked" := He.noat_ok (T.fact 110 (f := .noat "World" "asked") rfl)
theorem Tx.n_World_answers (T : Tx K mg) : NoAttr K (He.ga K "World") "answers" := He.noat_ok (T.fact 111 (f := .noat "World" "answers") rfl)
theorem Tx.n_World_done (T : Tx K mg) : NoAttr K (He.ga K "World") "done" := He.noat_ok (T.fact 112 (f := .noat "World" "done") rfl)
theorem Tx.m_World_house (T : Tx K mg) : Meth K (He.ga K "World") "house" (He.ma K (He.ga K "World") "house") := He.meth_ok (T.fact 113 (f := .meth "World" "house") rfl)
theorem Tx.m_World_state (T : Tx K mg) : Meth K (He.ga K "World") "state" (He.ma K (He.ga K "World") "state") := He.meth_ok (T.fact 114 (f := .meth "World" "state") rfl)
theorem Tx.m_World_letters (T : Tx K mg) : Meth K (He.ga K "World") "letters" (He.ma K (He.ga K "World") "letters") := He.meth_ok (T.fact 115 (f := .meth "World" "letters") rfl)
theorem Tx.m_World_inquiry (T : Tx K mg) : Meth K (He.ga K "World") "inquiry" (He.ma K (He.ga K "World") "inquiry") := He.meth_ok (T.fact 116 (f := .meth "World" "inquiry") rfl)
theorem Tx.m_World_make (T : Tx K mg) : Meth K (He.ga K "World") "make" (He.ma K (He.ga K "World") "make") := He.meth_ok (T.fact 117 (f := .meth "World" "make") rfl)
theorem Tx.m_World_hold (T : Tx K mg) : Meth K (He.ga K "World") "hold" (He.ma K (He.ga K "World") "hold") := He.meth_ok (T.fact 118 (f := .meth "World" "hold") rfl)
theorem Tx.m_World_drop (T : Tx K mg) : Meth K (He.ga K "World") "drop" (He.ma K (He.ga K "World") "drop") := He.meth_ok (T.fact 119 (f := .meth "World" "drop") rfl)
theorem Tx.m_World_take (T : Tx K mg) : Meth K (He.ga K "World") "take" (He.ma K (He.ga K "World") "take") := He.meth_ok (T.fact 120 (f := .meth "World" "take") rfl)
theorem Tx.m_World_free (T : Tx K mg) : Meth K (He.ga K "World") "free" (He.ma K (He.ga K "World") "free") := He.meth_ok (T.fact 121 (f := .meth "World" "free") rfl)
theorem Tx.m_World_send (T : Tx K mg) : Meth K (He.ga K "World") "send" (He.ma K (He.ga K "World") "send") := He.meth_ok (T.fact 122 (f := .meth "World" "send") rfl)
theorem Tx.m_World_backs (T : Tx K mg) : Meth K (He.ga K "World") "backs" (He.ma K (He.ga K "World") "backs") := He.meth_ok (T.fact 123 (f := .meth "World" "backs") rfl)
theorem Tx.m_World_clean (T : Tx K mg) : Meth K (He.ga K "World") "clean" (He.ma K (He.ga K "World") "clean") := He.meth_ok (T.fact 124 (f := .meth "World" "clean") rfl)
theorem Tx.m_World_asks (T : Tx K mg) : Meth K (He.ga K "World") "asks" (He.ma K (He.ga K "World") "asks") := He.meth_ok (T.fact 125 (f := .meth "World" "asks") rfl)
theorem Tx.m_World_ask (T : Tx K mg) : Meth K (He.ga K "World") "ask" (He.ma K (He.ga K "World") "ask") := He.meth_ok (T.fact 126 (f := .meth "World" "ask") rfl)
theorem Tx.m_World_answered (T : Tx K mg) : Meth K (He.ga K "World") "answered" (He.ma K (He.ga K "World") "answered") := He.meth_ok (T.fact 127 (f := .meth "World" "answered") rfl)
theorem Tx.m_World_heard (T : Tx K mg) : Meth K (He.ga K "World") "heard" (He.ma K (He.ga K "World") "heard") := He.meth_ok (T.fact 128 (f := .meth "World" "heard") rfl)
theorem Tx.m_World_lets (T : Tx K mg) : Meth K (He.ga K "World") "lets" (He.ma K (He.ga K "World") "lets") := He.meth_ok (T.fact 129 (f := .meth "World" "lets") rfl)
theorem Tx.m_World_passed (T : Tx K mg) : Meth K (He.ga K "World") "passed" (He.ma K (He.ga K "World") "passed") := He.meth_ok (T.fact 130 (f := .meth "World" "passed") rfl)
theorem Tx.m_World_deliver (T : Tx K mg) : Meth K (He.ga K "World") "deliver" (He.ma K (He.ga K "World") "deliver") := He.meth_ok (T.fact 131 (f := .meth "World" "deliver") rfl)
theorem Tx.c_Desk (T : Tx K mg) : Cls K (He.ga K "Desk") := He.cls_ok (T.fact 132 (f := .cls "Desk") rfl)
theorem Tx.k_Desk (T : Tx K mg) : Mk K (He.ga K "Desk") (He.ma K (He.ga K "Desk") "__init__") := He.mkr_ok (T.fact 133 (f := .mkr "Desk") rfl)
theorem Tx.n_Desk_world (T : Tx K mg) : NoAttr K (He.ga K "Desk") "world" := He.noat_ok (T.fact 134 (f := .noat "Desk" "world") rfl)
theorem Tx.m_Desk_say (T : Tx K mg) : Meth K (He.ga K "Desk") "say" (He.ma K (He.ga K "Desk") "say") := He.meth_ok (T.fact 135 (f := .meth "Desk" "say") rfl)
theorem Tx.m_Desk_deed (T : Tx K mg) : Meth K (He.ga K "Desk") "deed" (He.ma K (He.ga K "Desk") "deed") := He.meth_ok (T.fact 136 (f := .meth "Desk" "deed") rfl)
theorem Tx.m_Desk_by_letters (T : Tx K mg) : Meth K (He.ga K "Desk") "by_letters" (He.ma K (He.ga K "Desk") "by_letters") := He.meth_ok (T.fact 137 (f := .meth "Desk" "by_letters") rfl)
theorem Tx.m_Desk_told (T : Tx K mg) : Meth K (He.ga K "Desk") "told" (He.ma K (He.ga K "Desk") "told") := He.meth_ok (T.fact 138 (f := .meth "Desk" "told") rfl)
theorem Tx.m_Desk_holds (T : Tx K mg) : Meth K (He.ga K "Desk") "holds" (He.ma K (He.ga K "Desk") "holds") := He.meth_ok (T.fact 139 (f := .meth "Desk" "holds") rfl)
theorem Tx.e_NoHouse (T : Tx K mg) : PySem.W.excIn K (He.ga K "NoHouse") He.veBase "ValueError.__new__" = true ∧ PySem.W.keepIn K (.ref (He.ga K "NoHouse")) = true ∧ PySem.W.subIn K (.ref (He.ga K "NoHouse")) (.type "BaseException") = some true ∧ PySem.W.typeIn K (.ref (He.ga K "NoHouse")) = some (.type "type") := He.exc_ok (T.fact 140 (f := .exc "NoHouse") rfl)
theorem Tx.x_NoHouse (T : Tx K mg) : PySem.W.exmOne K (.ref (He.ga K "NoHouse")) (.ref (He.ga K "HoldError")) = some true := He.exm_ok (T.fact 141 (f := .exm "NoHouse" "HoldError" true) rfl)
theorem Tx.e_NotHeld (T : Tx K mg) : PySem.W.excIn K (He.ga K "NotHeld") He.veBase "ValueError.__new__" = true ∧ PySem.W.keepIn K (.ref (He.ga K "NotHeld")) = true ∧ PySem.W.subIn K (.ref (He.ga K "NotHeld")) (.type "BaseException") = some true ∧ PySem.W.typeIn K (.ref (He.ga K "NotHeld")) = some (.type "type") := He.exc_ok (T.fact 142 (f := .exc "NotHeld") rfl)
theorem Tx.x_NotHeld (T : Tx K mg) : PySem.W.exmOne K (.ref (He.ga K "NotHeld")) (.ref (He.ga K "HoldError")) = some true := He.exm_ok (T.fact 143 (f := .exm "NotHeld" "HoldError" true) rfl)
theorem Tx.e_NotNear (T : Tx K mg) : PySem.W.excIn K (He.ga K "NotNear") He.veBase "ValueError.__new__" = true ∧ PySem.W.keepIn K (.ref (He.ga K "NotNear")) = true ∧ PySem.W.subIn K (.ref (He.ga K "NotNear")) (.type "BaseException") = some true ∧ PySem.W.typeIn K (.ref (He.ga K "NotNear")) = some (.type "type") := He.exc_ok (T.fact 144 (f := .exc "NotNear") rfl)
theorem Tx.x_NotNear (T : Tx K mg) : PySem.W.exmOne K (.ref (He.ga K "NotNear")) (.ref (He.ga K "HoldError")) = some true := He.exm_ok (T.fact 145 (f := .exm "NotNear" "HoldError" true) rfl)
theorem Tx.e_Missing (T : Tx K mg) : PySem.W.excIn K (He.ga K "Missing") He.veBase "ValueError.__new__" = true ∧ PySem.W.keepIn K (.ref (He.ga K "Missing")) = true ∧ PySem.W.subIn K (.ref (He.ga K "Missing")) (.type "BaseException") = some true ∧ PySem.W.typeIn K (.ref (He.ga K "Missing")) = some (.type "type") := He.exc_ok (T.fact 146 (f := .exc "Missing") rfl)
theorem Tx.x_Missing (T : Tx K mg) : PySem.W.exmOne K (.ref (He.ga K "Missing")) (.ref (He.ga K "HoldError")) = some true := He.exm_ok (T.fact 147 (f := .exm "Missing" "HoldError" true) rfl)
theorem Tx.e_NoWeight (T : Tx K mg) : PySem.W.excIn K (He.ga K "NoWeight") He.veBase "ValueError.__new__" = true ∧ PySem.W.keepIn K (.ref (He.ga K "NoWeight")) = true ∧ PySem.W.subIn K (.ref (He.ga K "NoWeight")) (.type "BaseException") = some true ∧ PySem.W.typeIn K (.ref (He.ga K "NoWeight")) = some (.type "type") := He.exc_ok (T.fact 148 (f := .exc "NoWeight") rfl)
theorem Tx.x_NoWeight (T : Tx K mg) : PySem.W.exmOne K (.ref (He.ga K "NoWeight")) (.ref (He.ga K "HoldError")) = some true := He.exm_ok (T.fact 149 (f := .exm "NoWeight" "HoldError" true) rfl)
theorem Tx.e_NoLetter (T : Tx K mg) : PySem.W.excIn K (He.ga K "NoLetter") He.veBase "ValueError.__new__" = true ∧ PySem.W.keepIn K (.ref (He.ga K "NoLetter")) = true ∧ PySem.W.subIn K (.ref (He.ga K "NoLetter")) (.type "BaseException") = some true ∧ PySem.W.typeIn K (.ref (He.ga K "NoLetter")) = some (.type "type") := He.exc_ok (T.fact 150 (f := .exc "NoLetter") rfl)
theorem Tx.x_NoLetter (T : Tx K mg) : PySem.W.exmOne K (.ref (He.ga K "NoLetter")) (.ref (He.ga K "HoldError")) = some true := He.exm_ok (T.fact 151 (f := .exm "NoLetter" "HoldError" true) rfl)
theorem Tx.e_NoInquiry (T : Tx K mg) : PySem.W.excIn K (He.ga K "NoInquiry") He.veBase "ValueError.__new__" = true ∧ PySem.W.keepIn K (.ref (He.ga K "NoInquiry")) = true ∧ PySem.W.subIn K (.ref (He.ga K "NoInquiry")) (.type "BaseException") = some true ∧ PySem.W.typeIn K (.ref (He.ga K "NoInquiry")) = some (.type "type") := He.exc_ok (T.fact 152 (f := .exc "NoInquiry") rfl)
theorem Tx.x_NoInquiry (T : Tx K mg) : PySem.W.exmOne K (.ref (He.ga K "NoInquiry")) (.ref (He.ga K "HoldError")) = some true := He.exm_ok (T.fact 153 (f := .exm "NoInquiry" "HoldError" true) rfl)
theorem Tx.e_NoRow (T : Tx K mg) : PySem.W.excIn K (He.ga K "NoRow") He.veBase "ValueError.__new__" = true ∧ PySem.W.keepIn K (.ref (He.ga K "NoRow")) = true ∧ PySem.W.subIn K (.ref (He.ga K "NoRow")) (.type "BaseException") = some true ∧ PySem.W.typeIn K (.ref (He.ga K "NoRow")) = some (.type "type") := He.exc_ok (T.fact 154 (f := .exc "NoRow") rfl)
theorem Tx.x_NoRow (T : Tx K mg) : PySem.W.exmOne K (.ref (He.ga K "NoRow")) (.ref (He.ga K "HoldError")) = some true := He.exm_ok (T.fact 155 (f := .exm "NoRow" "HoldError" true) rfl)
/-- a def keeps its promise -/
def Ok (P : Program) (w : World) (K : PySem.W.Frag) (mg : Str → Option Value) (base : Heap) (k : Nat) (d : He.DefD) (ps : List Str) (sp : Sp) : Prop :=
  ∃ fd, FnOk P w K mg base (L2N.CX P w) k (He.fAd K d.at_) fd ps sp ∧ Binds K fd ps [] ∧ PySem.W.keepIn K (.ref (He.fAd K d.at_)) = true
theorem Ok.mk {P : Program} {w : World} {base : Heap} {k : Nat} {d : He.DefD} {N ps : List Str} {sp : Sp} (T : Tx K mg) (i : Nat) (hi : fn[i]? = some d) (hd : d.dfl = [] ∧ d.kwd = []) (S : FnScope N ps d.scope) (len : ∀ vs H Q E, sp vs H Q E → vs.length = ps.length)
    (hb : ∀ (kV doc pm : Value) (an : Option Addr) (cdv ct : Value) (us : List Value), us.length = ps.length → bindArgs (PySem.W.fnOf d.name d.qual d.params d.body d.scope .none kV doc pm an cdv ct) ⟨us, []⟩ = pure (ps.zip us))
    (body : ∀ (cdv : Value) (A : Around) (outer : List Env) (s : Shared) (H : Hp) (vs : List V) (Q : VK) (E : XK), Room k (A.deeper (envOfC d.qual d.scope s.heap.objs.size (He.fAd K d.at_) cdv)) → sp vs H Q E →
      ∃ t, PSs (cxOf (L2N.CX P w) P w K mg base N d.qual d.scope (He.fAd K d.at_) cdv A outer s H E) d.body t ∧ t { nx := fun _ H' => Q .non H', rt := Q } (start N vs) H) : Ok P w K mg base (k + 1) d ps sp := by
  obtain ⟨fd, F⟩ := T.says.def_ i (d := d) hi
  have e1 : d.dvs K = [] := by
    unfold He.DefD.dvs
    rw [hd.1]
    rfl
  have e2 : d.kws K = [] := by
    unfold He.DefD.kws
    rw [hd.2]
    rfl
  rw [e1, e2] at F
  exact ⟨fd, F.ok S len body, F.bindsN hb, F.kp⟩
end
/-! ### raising: the context is known to be none -/
abbrev takes_of := @L2N.takes_of
abbrev ps_raise := @L2N.ps_raise
abbrev pmk_own := @L2N.pmk_own
theorem passL {X : Cx} : Passes (L2N.CX X.prog X.w) X E0 := by
  intro pins σ H s e s' I h
  obtain ⟨_, _, _, _, _, _, _, _, _, _, _, _, z⟩ := h
  exact False.elim z
/-- more facts of the eight classes of refusals: which is an instance of which -/
def exOne (K : PySem.W.Frag) (x : Str) : Bool :=
  He.eqO (PySem.W.findIn K (.ref (He.ga K x)) "__getattribute__") (some (some (.builtin "BaseException.__getattribute__"))) &&
  He.eqO (PySem.W.findIn K (.ref (He.ga K x)) "__getattr__") (some none) &&
  PySem.W.hasDictIn K (He.ga K x) &&
  He.eqO (PySem.W.findIn K (.ref (He.ga K x)) "__class__") (some (some (.builtin "object.__class__"))) &&
  decide (PySem.W.mroIn K (He.ga K x) (.type "object") = some true) &&
  decide (PySem.W.kitOne K (.ref (He.ga K x)) (.type "ValueError") = some true) &&
  excNames.all fun y => decide (PySem.W.kitOne K (.ref (He.ga K x)) (.ref (He.ga K y)) = some (decide (x = y)))
def ex (K : PySem.W.Frag) : Bool := (excNames.all (exOne K)) &&
  He.eqO (PySem.W.specialIn K (.builtin "object.__class__") "__get__") (some (some (.builtin "getset_descriptor.__get__"))) &&
  decide (PySem.W.takesIn K (.builtin "object.__class__") = some true)
end Fh

set_option linter.all false
/-! The program as plain functions: houses, letters, inquiries, worlds. -/
namespace Fm
abbrev Th := Int × Int
inductive Er where
  | noHouse | notHeld | notNear | missing | noWeight | noLetter | noInquiry | noRow
  deriving DecidableEq
/-! ### dicts by insertion -/
section
variable {κ β : Type} [DecidableEq κ]
def dget (d : List (κ × β)) (k : κ) : Option β := (d.find? fun e => decide (e.1 = k)).map (·.2)
def dput (d : List (κ × β)) (k : κ) (v : β) : List (κ × β) :=
  if (d.any fun e => decide (e.1 = k)) = true then d.map (fun e => if e.1 = k then (e.1, v) else e) else d ++ [(k, v)]
def ddrop (d : List (κ × β)) (k : κ) : List (κ × β) := d.filter fun e => decide (e.1 ≠ k)
def dmod (d : List (κ × β)) (k : κ) (f : β → β) : List (κ × β) := d.map fun e => if e.1 = k then (e.1, f e.2) else e
def keys (d : List (κ × β)) : List κ := d.map (·.1)
def hput (l : List κ) (t : κ) : List κ := if t ∈ l then l else l ++ [t]
def hdrop (l : List κ) (t : κ) : List κ := l.filter fun x => decide (x ≠ t)
end
/-! ### order -/
def leT (a b : Th) : Bool := decide (a.1 < b.1) || (decide (a.1 = b.1) && decide (a.2 ≤ b.2))
def sortT (l : List Th) : List Th := l.mergeSort leT
def sortI (l : List Int) : List Int := l.mergeSort fun a b => decide (a ≤ b)
/-! ### weights, reaching -/
def parted (w : Int) : Int × Int := if w = 1 then (0, 1) else (w - w / 2, w / 2)
def nsucc (hd : List (Int × List Th)) (i : Int) (n : Int) : List Int := (((dget hd n).getD []).filter fun t => decide (t.1 = i)).map (·.2)
def nearLoop (hd : List (Int × List Th)) (i : Int) : Nat → List Int → List Int → List Int
  | 0, r, _ => r
  | f + 1, r, l => match l.getLast? with
    | none => r
    | some n => if n ∈ r then nearLoop hd i f r l.dropLast else nearLoop hd i f (r ++ [n]) (l.dropLast ++ nsucc hd i n)
def edges {κ β : Type} (hd : List (κ × List β)) : Nat := (hd.map fun e => e.2.length).sum
def nearReach (starts : List Int) (hd : List (Int × List Th)) (i : Int) : List Int := nearLoop hd i (starts.length + edges hd + 1) [] starts
/-! ### a house -/
structure Hs where
  made : Int
  ticks : Int
  hand : List Th
  holding : List (Int × List Th)
  outs : List (Int × Int)
  recs : List (Th × Int)
def Hs.new : Hs := ⟨0, 0, [], [], [], []⟩
def Hs.tick (S : Hs) : Hs := { S with ticks := S.ticks + 1 }
structure StD where
  hand : List Th
  things : List (Th × Int × List Th)
  recs : List (Th × Int)
def Hs.state (i : Int) (S : Hs) : StD :=
  ⟨sortT S.hand, (sortI (keys S.holding)).map fun n => ((i, n), (dget S.outs n).getD 0, sortT ((dget S.holding n).getD [])),
    (sortT (keys S.recs)).map fun t => (t, (dget S.recs t).getD 0)⟩
def Hs.heldBy (i : Int) (S : Hs) (a : Th) : Except Er (List Th) :=
  if a ∈ S.hand then (if a.1 = i then .ok ((dget S.holding a.2).getD []) else .error .notNear) else .error .notHeld
def Hs.make (i : Int) (S : Hs) : Hs :=
  { S with made := S.made + 1, holding := dput S.holding S.made [], outs := dput S.outs S.made 0, hand := hput S.hand (i, S.made), ticks := S.ticks + 1 }
def Hs.hold (i : Int) (S : Hs) (a b : Th) : Except Er Hs :=
  if a ∈ S.hand then (if b ∈ S.hand then (if a.1 = i then .ok { S with holding := dmod S.holding a.2 (fun l => hput l b), ticks := S.ticks + 1 } else .error .notNear) else .error .notHeld) else .error .notHeld
def Hs.drop (i : Int) (S : Hs) (a b : Th) : Except Er Hs :=
  match S.heldBy i a with
  | .error e => .error e
  | .ok l => if b ∈ l then .ok { S with holding := dmod S.holding a.2 (fun l => hdrop l b), ticks := S.ticks + 1 } else .error .missing
def Hs.take (i : Int) (S : Hs) (a b : Th) : Except Er Hs :=
  match S.heldBy i a with
  | .error e => .error e
  | .ok l => if b ∈ l then .ok { S with hand := hput S.hand b, ticks := S.ticks + 1 } else .error .missing
def Hs.free (S : Hs) (b : Th) : Except Er Hs :=
  if b ∈ S.hand then .ok { S with hand := hdrop S.hand b, ticks := S.ticks + 1 } else .error .notHeld
def Hs.isLast (S : Hs) (b : Th) : Bool := decide ((dget S.recs b).getD 0 = 1)
def Hs.part (i : Int) (S : Hs) (b : Th) (share : Int) : Except Er (Hs × Int) :=
  if b ∈ S.hand then
    (if b.1 = i then .ok ({ S with outs := dput S.outs b.2 ((dget S.outs b.2).getD 0 + share), ticks := S.ticks + 1 }, share)
     else if (dget S.recs b).getD 0 = 0 then .error .noWeight
     else .ok ({ S with recs := dput S.recs b (parted ((dget S.recs b).getD 0)).1, ticks := S.ticks + 1 }, (parted ((dget S.recs b).getD 0)).2))
  else .error .notHeld
def Hs.added (S : Hs) (b : Th) (w : Int) : Hs := { S with recs := dput S.recs b ((dget S.recs b).getD 0 + w), ticks := S.ticks + 1 }
def Hs.given (S : Hs) (b : Th) (w : Int) : Hs :=
  { S with outs := (if (dget S.outs b.2).isSome = true then dput S.outs b.2 ((dget S.outs b.2).getD 0 - w) else S.outs), ticks := S.ticks + 1 }
def Hs.came (i : Int) (S : Hs) (b : Th) (w : Int) : Hs :=
  if b.1 = i then Hs.given { S with hand := hput S.hand b } b w else Hs.added { S with hand := hput S.hand b } b w
def Hs.passed (S : Hs) (b : Th) (share : Int) (mine : Bool) : Hs :=
  if mine = true then { S with hand := hput S.hand b, outs := dput S.outs b.2 ((dget S.outs b.2).getD 0 - 1 + share), ticks := S.ticks + 1 }
  else { S with outs := dput S.outs b.2 ((dget S.outs b.2).getD 0 - 1 + share + share), ticks := S.ticks + 1 }
def Hs.held (S : Hs) : List Th := S.holding.foldl (fun acc e => e.2.foldl hput acc) S.hand
def Hs.back (S : Hs) : List (Th × Int) :=
  (sortT (keys S.recs)).filterMap fun t => if t ∈ S.held then none else if (dget S.recs t).getD 0 > 0 then some (t, (dget S.recs t).getD 0) else none
def Hs.givenBack (S : Hs) : Hs := { S with recs := S.recs.filter (fun e => decide (e.1 ∈ S.held)), ticks := S.ticks + 1 }
def Hs.starts (i : Int) (S : Hs) : List Int := ((S.hand.filter fun t => decide (t.1 = i)).map (·.2)) ++ ((S.outs.filter fun e => decide (e.2 > 0)).map (·.1))
def Hs.kept (i : Int) (S : Hs) : List Int := nearReach (S.starts i) S.holding i
def Hs.only (S : Hs) (p : Int → Bool) : Hs := { S with holding := S.holding.filter (fun e => p e.1), outs := S.outs.filter (fun e => p e.1) }
def Hs.swept (i : Int) (S : Hs) : Hs := S.only fun n => decide (n ∈ S.kept i)
def Hs.without (S : Hs) (ts : List Th) : Hs := S.only fun n => decide (n ∉ ts.map (·.2))
/-! ### what is found -/
abbrev Sts := List (Int × StD)
def allThings (s : Sts) : List (Th × Int × List Th) := s.flatMap fun e => e.2.things
def outsOf (s : Sts) : List (Th × Int) := (allThings s).foldl (fun d x => dput d x.1 x.2.1) []
def holdsOf (s : Sts) : List (Th × List Th) := (allThings s).foldl (fun d x => dput d x.1 x.2.2) []
def recorded (s : Sts) : List (Th × Int) := (s.flatMap fun e => e.2.recs).foldl (fun d x => dput d x.1 ((dget d x.1).getD 0 + x.2)) []
def rootsOf (s : Sts) : List Th :=
  (outsOf s).foldl (fun r e => if e.2 ≠ (dget (recorded s) e.1).getD 0 then hput r e.1 else r) ((s.flatMap fun e => e.2.hand).foldl hput [])
def farLoop (hd : List (Th × List Th)) : Nat → List Th → List Th → List Th
  | 0, r, _ => r
  | f + 1, r, l => match l.getLast? with
    | none => r
    | some t => match dget hd t with
      | none => farLoop hd f r l.dropLast
      | some ts => if t ∈ r then farLoop hd f r l.dropLast else farLoop hd f (r ++ [t]) (l.dropLast ++ ts)
def reachedFrom (roots : List Th) (hd : List (Th × List Th)) : List Th := farLoop hd (roots.length + edges hd + 1) [] roots
def unreached (s : Sts) : List Th := sortT ((keys (holdsOf s)).filter fun t => decide (t ∉ reachedFrom (rootsOf s) (holdsOf s)))
/-! ### inquiries, letters, worlds -/
structure Inq where
  ticks : List (Int × Int)
  states : List (Int × StD)
  again : List (Int × Int)
def Inq.new : Inq := ⟨[], [], []⟩
def Inq.still (n : Nat) (q : Inq) : List Int := ((List.range n).map fun (k : Nat) => (k : Int)).filter fun h => decide (dget q.ticks h = dget q.again h)
def Inq.told (n : Nat) (q : Inq) : Sts := (q.still n).filterMap fun h => (dget q.states h).map fun s => (h, s)
def Inq.result (n : Nat) (q : Inq) : List Th := unreached (q.told n)
inductive Ab where
  | ask (q t : Int) | ans (q t : Int) | hold (b : Th) (w : Int) | pass (b : Th) (g : Int) | more (b : Th) (w : Int) | back (b : Th) (w : Int) | lets (ts : List Th)
structure Lt where
  sender : Int
  goal : Int
  ab : Ab
structure Wd where
  share : Int
  hs : List Hs
  last : Int
  lying : List (Int × Lt)
  asked : List Inq
  answers : List (Int × (Int × StD))
  done : List (Int × List Th)
def Wd.new (many : Nat) (share : Int) : Wd := ⟨share, List.replicate many Hs.new, 0, [], [], [], []⟩
def Wd.is (M : Wd) (h : Int) : Bool := decide (0 ≤ h ∧ h < (M.hs.length : Int))
def Wd.at (M : Wd) (h : Int) : Hs := M.hs.getD h.toNat Hs.new
def Wd.set (M : Wd) (h : Int) (S : Hs) : Wd := { M with hs := M.hs.set h.toNat S }
def Wd.put (M : Wd) (l : Lt) : Wd := { M with last := M.last + 1, lying := dput M.lying (M.last + 1) l }
def Wd.puts (M : Wd) (ls : List Lt) : Wd := ls.foldl Wd.put M
def nums (a : Int) (n : Nat) : List Int := (List.range n).map fun (k : Nat) => a + 1 + (k : Int)
def Wd.act (M : Wd) (h : Int) (f : Hs → Except Er Hs) : Except Er Wd :=
  if M.is h = true then (match f (M.at h) with | .ok S => .ok (M.set h S) | .error e => .error e) else .error .noHouse
def Wd.make (M : Wd) (h : Int) : Except Er (Wd × Th) := if M.is h = true then .ok (M.set h ((M.at h).make h), (h, (M.at h).made)) else .error .noHouse
def Wd.hold (M : Wd) (h : Int) (a b : Th) : Except Er Wd := M.act h fun S => S.hold h a b
def Wd.drop (M : Wd) (h : Int) (a b : Th) : Except Er Wd := M.act h fun S => S.drop h a b
def Wd.take (M : Wd) (h : Int) (a b : Th) : Except Er Wd := M.act h fun S => S.take h a b
def Wd.free (M : Wd) (h : Int) (b : Th) : Except Er Wd := M.act h fun S => S.free b
def Wd.send (M : Wd) (h g : Int) (b : Th) : Except Er Wd :=
  if M.is h = true then (if M.is g = true then (match (M.at h).part h b M.share with
    | .error e => .error e
    | .ok (S, w) => .ok ((M.set h S).put (if (M.at h).isLast b = true then ⟨h, b.1, .pass b g⟩ else ⟨h, g, .hold b w⟩))) else .error .noHouse) else .error .noHouse
def backLts (h : Int) (bs : List (Th × Int)) : List Lt := bs.map fun e => ⟨h, e.1.1, .back e.1 e.2⟩
/-- a house's things go, what nobody holds is given back -/
def Wd.giveBack (M : Wd) (h : Int) (S : Hs) : Wd := (M.set h S.givenBack).puts (backLts h S.back)
def Wd.clean (M : Wd) (h : Int) : Except Er (Wd × List Int) :=
  if M.is h = true then .ok (M.giveBack h ((M.at h).swept h), nums M.last ((M.at h).swept h).back.length) else .error .noHouse
def houses (n : Nat) : List Int := (List.range n).map fun (k : Nat) => (k : Int)
def askLts (h : Int) (n : Nat) (q t : Int) : List Lt := (houses n).map fun g => ⟨h, g, .ask q t⟩
def letLts (h : Int) (n : Nat) (ts : List Th) : List Lt := (houses n).map fun g => ⟨h, g, .lets (ts.filter fun t => decide (t.1 = g))⟩
def Wd.ask (M : Wd) (h : Int) : Except Er Wd :=
  if M.is h = true then .ok ({ M with asked := M.asked ++ [Inq.new] }.puts (askLts h M.hs.length (M.asked.length + 1) 1)) else .error .noHouse
def Wd.inqAt (M : Wd) (q : Int) : Inq := M.asked.getD (q - 1).toNat Inq.new
def Wd.setInq (M : Wd) (q : Int) (x : Inq) : Wd := { M with asked := M.asked.set (q - 1).toNat x }
def Wd.answered (M : Wd) (s g : Int) (q t : Int) : Wd :=
  { M.put ⟨g, s, .ans q t⟩ with answers := dput M.answers (M.last + 1) ((M.at g).ticks, (M.at g).state g) }
def Wd.heard (M : Wd) (n s g : Int) (q t : Int) : Wd × Nat :=
  match dget M.answers n with
  | none => (M, 0)
  | some (tk, st) =>
    let M0 := { M with answers := ddrop M.answers n }
    if t = 1 then
      let x : Inq := { M.inqAt q with ticks := dput (M.inqAt q).ticks s tk, states := dput (M.inqAt q).states s st }
      if x.ticks.length = M.hs.length then ((M0.setInq q x).puts (askLts g M.hs.length q 2), M.hs.length) else (M0.setInq q x, 0)
    else
      let x : Inq := { M.inqAt q with again := dput (M.inqAt q).again s tk }
      if x.again.length = M.hs.length then
        ({ M0.setInq q x with done := dput M.done q (x.result M.hs.length) }.puts (letLts g M.hs.length (x.result M.hs.length)), M.hs.length)
      else (M0.setInq q x, 0)
def Wd.passedOn (M : Wd) (s g : Int) (b : Th) (to : Int) : Wd × Nat :=
  let M1 := M.set g ((M.at g).passed b M.share (decide (to = g)))
  if to = g then (M1.put ⟨g, s, .more b M.share⟩, 1) else ((M1.put ⟨g, to, .hold b M.share⟩).put ⟨g, s, .more b M.share⟩, 2)
def Wd.arrive (M : Wd) (n : Int) (l : Lt) : Wd × Nat := match l.ab with
  | .ask q t => (M.answered l.sender l.goal q t, 1)
  | .ans q t => M.heard n l.sender l.goal q t
  | .pass b to => M.passedOn l.sender l.goal b to
  | .lets ts => (M.giveBack l.goal ((M.at l.goal).without ts), ((M.at l.goal).without ts).back.length)
  | .hold b w => (M.set l.goal ((M.at l.goal).came l.goal b w), 0)
  | .more b w => (M.set l.goal ((M.at l.goal).added b w), 0)
  | .back b w => (M.set l.goal ((M.at l.goal).given b w), 0)
def Wd.come (M : Wd) (n : Int) : Except Er (Wd × List Int) := match dget M.lying n with
  | none => .error .noLetter
  | some l => let r := ({ M with lying := ddrop M.lying n }).arrive n l
    .ok (r.1, nums M.last r.2)
def Wd.inquiry (M : Wd) (n : Int) : Except Er (List Th) := if 1 ≤ n ∧ n ≤ (M.asked.length : Int) then .ok ((dget M.done n).getD []) else .error .noInquiry
def Wd.letters (M : Wd) : List (Int × Lt) := (sortI (keys M.lying)).filterMap fun n => (dget M.lying n).map fun l => (n, l)
end Fm

set_option linter.all false
namespace Fm
section
variable {κ β : Type} [DecidableEq κ]
theorem dget_nil {k : κ} : dget ([] : List (κ × β)) k = none := rfl
theorem dget_cons (e : κ × β) (d : List (κ × β)) (k : κ) : dget (e :: d) k = if e.1 = k then some e.2 else dget d k := by
  unfold dget
  rw [List.find?_cons]
  by_cases h : e.1 = k
  · simp [h]
  · simp [h]
theorem dget_mem {d : List (κ × β)} {k : κ} {v : β} (h : dget d k = some v) : (k, v) ∈ d := by
  induction d with
  | nil => cases h
  | cons e r ih =>
    rw [dget_cons] at h
    split at h
    · rename_i q
      cases h
      rw [← q]
      exact List.mem_cons_self
    · exact List.mem_cons_of_mem _ (ih h)
theorem dget_none {d : List (κ × β)} {k : κ} : dget d k = none ↔ k ∉ keys d := by
  induction d with
  | nil => simp [dget, keys]
  | cons e r ih =>
    rw [dget_cons]
    unfold keys at ih ⊢
    by_cases q : e.1 = k
    · simp [q]
    · rw [if_neg q, ih]
      simp [Ne.symm q]
theorem dget_isSome {d : List (κ × β)} {k : κ} : (dget d k).isSome = true ↔ k ∈ keys d := by
  cases h : dget d k with
  | none =>
    have := dget_none.mp h
    simp [this]
  | some v =>
    have : ¬ (k ∉ keys d) := fun q => by
      rw [dget_none.mpr q] at h
      cases h
    simp
    exact Decidable.not_not.mp this
theorem dget_some {d : List (κ × β)} {k : κ} (h : k ∈ keys d) : ∃ v, dget d k = some v := Option.isSome_iff_exists.mp (dget_isSome.mpr h)
theorem mem_keys {d : List (κ × β)} {k : κ} {v : β} (h : dget d k = some v) : k ∈ keys d := dget_isSome.mp (by rw [h]; rfl)
theorem mem_keys_of {d : List (κ × β)} {e : κ × β} (h : e ∈ d) : e.1 ∈ keys d := List.mem_map.mpr ⟨e, h, rfl⟩
theorem dget_of_mem {d : List (κ × β)} {k : κ} {v : β} (hn : (keys d).Nodup) (h : (k, v) ∈ d) : dget d k = some v := by
  induction d with
  | nil => cases h
  | cons e r ih =>
    rw [dget_cons]
    have hn' : e.1 ∉ keys r ∧ (keys r).Nodup := List.nodup_cons.mp hn
    rcases List.mem_cons.mp h with q | q
    · rw [← q]
      simp
    · rw [if_neg fun z => hn'.1 (by rw [z]; exact mem_keys_of q)]
      exact ih hn'.2 q
theorem dget_append (d r : List (κ × β)) (k : κ) : dget (d ++ r) k = (dget d k).or (dget r k) := by
  induction d with
  | nil => simp [dget_nil]
  | cons e t ih =>
    rw [List.cons_append, dget_cons, dget_cons]
    split
    · rfl
    · exact ih
theorem dget_map (d : List (κ × β)) (f : κ → β → β) (k : κ) : dget (d.map fun e => (e.1, f e.1 e.2)) k = (dget d k).map (f k) := by
  induction d with
  | nil => rfl
  | cons e t ih =>
    rw [List.map_cons, dget_cons, dget_cons]
    by_cases h : e.1 = k
    · simp [h]
    · simp [h, ih]
theorem any_keys (d : List (κ × β)) (k : κ) : (d.any fun e => decide (e.1 = k)) = true ↔ k ∈ keys d := by
  unfold keys
  simp [List.any_eq_true]
theorem dput_in {d : List (κ × β)} {k : κ} {v : β} (h : k ∈ keys d) : dput d k v = d.map (fun e => if e.1 = k then (e.1, v) else e) := by
  unfold dput
  rw [if_pos ((any_keys d k).mpr h)]
theorem dput_out {d : List (κ × β)} {k : κ} {v : β} (h : k ∉ keys d) : dput d k v = d ++ [(k, v)] := by
  unfold dput
  rw [if_neg fun q => h ((any_keys d k).mp q)]
theorem keys_dput (d : List (κ × β)) (k : κ) (v : β) : keys (dput d k v) = if k ∈ keys d then keys d else keys d ++ [k] := by
  by_cases h : k ∈ keys d
  · rw [dput_in h, if_pos h]
    unfold keys
    rw [List.map_map]
    apply List.map_congr_left
    intro e _
    show (if e.1 = k then (e.1, v) else e).1 = e.1
    split <;> rfl
  · rw [dput_out h, if_neg h]
    unfold keys
    simp
theorem mem_keys_dput {d : List (κ × β)} {k j : κ} {v : β} : j ∈ keys (dput d k v) ↔ j = k ∨ j ∈ keys d := by
  rw [keys_dput]
  by_cases h : k ∈ keys d
  · rw [if_pos h]
    constructor
    · exact Or.inr
    · rintro (rfl | q)
      · exact h
      · exact q
  · rw [if_neg h]
    simp [or_comm]
theorem nodup_dput {d : List (κ × β)} {k : κ} {v : β} (h : (keys d).Nodup) : (keys (dput d k v)).Nodup := by
  rw [keys_dput]
  split
  · exact h
  · rename_i q
    rw [List.nodup_append]
    exact ⟨h, by simp, fun a ha b hb => by
      have : b = k := by simpa using hb
      rw [this]
      exact fun z => q (by rw [← z]; exact ha)⟩
theorem dget_dput (d : List (κ × β)) (k j : κ) (v : β) : dget (dput d k v) j = if j = k then some v else dget d j := by
  by_cases h : k ∈ keys d
  · rw [dput_in h]
    have e : (d.map fun e => if e.1 = k then (e.1, v) else e) = d.map fun e => (e.1, (fun a b => if a = k then v else b) e.1 e.2) := by
      apply List.map_congr_left
      intro e _
      dsimp only
      split <;> rfl
    rw [e, dget_map d (fun a b => if a = k then v else b)]
    by_cases q : j = k
    · subst q
      obtain ⟨w, hw⟩ := dget_some h
      simp [hw]
    · simp [q]
  · rw [dput_out h, dget_append, dget_cons, dget_nil]
    by_cases q : j = k
    · subst q
      rw [dget_none.mpr h]
      simp
    · rw [if_neg q, if_neg fun z => q z.symm]
      simp
theorem length_dput (d : List (κ × β)) (k : κ) (v : β) : (dput d k v).length ≤ d.length + 1 := by
  unfold dput
  split
  · simp
  · simp
theorem keys_filter (d : List (κ × β)) (p : κ → Bool) : keys (d.filter fun e => p e.1) = (keys d).filter p := by
  unfold keys
  rw [List.filter_map]
  rfl
theorem dget_filter (d : List (κ × β)) (p : κ → Bool) (k : κ) : dget (d.filter fun e => p e.1) k = if p k = true then dget d k else none := by
  induction d with
  | nil => simp [dget_nil]
  | cons e t ih =>
    rw [List.filter_cons]
    by_cases h : p e.1 = true
    · rw [if_pos h, dget_cons, dget_cons, ih]
      by_cases q : e.1 = k
      · rw [if_pos q, if_pos q, if_pos (by rw [← q]; exact h)]
      · rw [if_neg q, if_neg q]
    · rw [if_neg h, ih, dget_cons]
      by_cases q : e.1 = k
      · rw [if_neg (by rw [← q]; exact h), if_neg (by rw [← q]; exact h)]
      · rw [if_neg q]
theorem dget_ddrop (d : List (κ × β)) (k j : κ) : dget (ddrop d k) j = if j = k then none else dget d j := by
  unfold ddrop
  rw [dget_filter d (fun x => decide (x ≠ k)) j]
  by_cases h : j = k <;> simp [h]
theorem keys_ddrop (d : List (κ × β)) (k : κ) : keys (ddrop d k) = (keys d).filter fun x => decide (x ≠ k) := keys_filter d (fun x => decide (x ≠ k))
theorem nodup_ddrop {d : List (κ × β)} {k : κ} (h : (keys d).Nodup) : (keys (ddrop d k)).Nodup := by
  rw [keys_ddrop]
  exact h.filter _
theorem mem_ddrop {d : List (κ × β)} {k : κ} {e : κ × β} (h : e ∈ ddrop d k) : e ∈ d ∧ e.1 ≠ k := by
  unfold ddrop at h
  simpa using h
theorem keys_dmod (d : List (κ × β)) (k : κ) (f : β → β) : keys (dmod d k f) = keys d := by
  unfold keys dmod
  rw [List.map_map]
  apply List.map_congr_left
  intro e _
  show (if e.1 = k then (e.1, f e.2) else e).1 = e.1
  split <;> rfl
theorem dget_dmod (d : List (κ × β)) (k j : κ) (f : β → β) : dget (dmod d k f) j = if j = k then (dget d j).map f else dget d j := by
  unfold dmod
  have e : (d.map fun e => if e.1 = k then (e.1, f e.2) else e) = d.map fun e => (e.1, (fun a b => if a = k then f b else b) e.1 e.2) := by
    apply List.map_congr_left
    intro e _
    dsimp only
    split <;> rfl
  rw [e, dget_map d (fun a b => if a = k then f b else b)]
  by_cases q : j = k
  · simp [q]
  · simp [q]
theorem mem_hput {l : List κ} {t x : κ} : x ∈ hput l t ↔ x = t ∨ x ∈ l := by
  unfold hput
  split
  · rename_i h
    constructor
    · exact Or.inr
    · rintro (rfl | q)
      · exact h
      · exact q
  · simp [or_comm]
theorem hput_len (l : List κ) (t : κ) : (hput l t).length ≤ l.length + 1 := by
  unfold hput
  split
  · omega
  · simp
theorem nodup_hput {l : List κ} {t : κ} (h : l.Nodup) : (hput l t).Nodup := by
  unfold hput
  split
  · exact h
  · rename_i q
    rw [List.nodup_append]
    exact ⟨h, by simp, fun a ha b hb => by
      have : b = t := by simpa using hb
      rw [this]
      exact fun z => q (by rw [← z]; exact ha)⟩
theorem mem_hdrop {l : List κ} {t x : κ} : x ∈ hdrop l t ↔ x ∈ l ∧ x ≠ t := by
  unfold hdrop
  simp
theorem mem_foldl_hput {l : List κ} : ∀ {acc : List κ} {x : κ}, x ∈ l.foldl hput acc ↔ x ∈ acc ∨ x ∈ l := by
  induction l with
  | nil => simp
  | cons a r ih =>
    intro acc x
    rw [List.foldl_cons, ih, mem_hput]
    simp only [List.mem_cons]
    constructor
    · rintro ((h | h) | h)
      · exact .inr (.inl h)
      · exact .inl h
      · exact .inr (.inr h)
    · rintro (h | h | h)
      · exact .inl (.inr h)
      · exact .inl (.inl h)
      · exact .inr h
end
theorem mem_sortT {l : List Th} {x : Th} : x ∈ sortT l ↔ x ∈ l := (List.mergeSort_perm l leT).mem_iff
theorem mem_sortI {l : List Int} {x : Int} : x ∈ sortI l ↔ x ∈ l := (List.mergeSort_perm l _).mem_iff
theorem mem_held {S : Hs} {t : Th} : t ∈ S.held ↔ t ∈ S.hand ∨ ∃ e ∈ S.holding, t ∈ e.2 := by
  unfold Hs.held
  have h : ∀ (d : List (Int × List Th)) (acc : List Th), t ∈ d.foldl (fun acc e => e.2.foldl hput acc) acc ↔ t ∈ acc ∨ ∃ e ∈ d, t ∈ e.2 := by
    intro d
    induction d with
    | nil => simp
    | cons a r ih =>
      intro acc
      rw [List.foldl_cons, ih, mem_foldl_hput]
      simp [or_assoc]
  exact h _ _
/-! ### reaching: what is reached holds the starts and is closed -/
def restLen {κ β : Type} [DecidableEq κ] (hd : List (κ × List β)) (r : List κ) : Nat := ((hd.filter fun e => decide (e.1 ∉ r)).map fun e => e.2.length).sum
def nphi (hd : List (Int × List Th)) (r l : List Int) : Nat := l.length + restLen hd r
def fphi (hd : List (Th × List Th)) (r l : List Th) : Nat := l.length + restLen hd r
theorem getLast?_split {α : Type} {l : List α} {x : α} (h : l.getLast? = some x) : l = l.dropLast ++ [x] := by
  obtain ⟨ys, rfl⟩ := List.getLast?_eq_some_iff.mp h
  simp
theorem restLen_cons {κ β : Type} [DecidableEq κ] (e : κ × List β) (hd : List (κ × List β)) (r : List κ) : restLen (e :: hd) r = if e.1 ∈ r then restLen hd r else e.2.length + restLen hd r := by
  unfold restLen
  rw [List.filter_cons]
  by_cases h : e.1 ∈ r
  · rw [if_neg (by simp [h]), if_pos h]
  · rw [if_pos (by simp [h]), if_neg h]
    simp
theorem restLen_le {κ β : Type} [DecidableEq κ] (hd : List (κ × List β)) (r : List κ) (n : κ) : restLen hd (r ++ [n]) ≤ restLen hd r := by
  induction hd with
  | nil => exact Nat.le_refl _
  | cons e t ih =>
    rw [restLen_cons, restLen_cons]
    by_cases h : e.1 ∈ r
    · rw [if_pos (List.mem_append_left _ h), if_pos h]
      exact ih
    · rw [if_neg h]
      split
      · omega
      · omega
theorem restLen_drop {κ β : Type} [DecidableEq κ] (hd : List (κ × List β)) (r : List κ) (n : κ) (hn : n ∉ r) {ts : List β} (h : dget hd n = some ts) : restLen hd (r ++ [n]) + ts.length ≤ restLen hd r := by
  induction hd with
  | nil => cases h
  | cons e t ih =>
    rw [dget_cons] at h
    rw [restLen_cons, restLen_cons]
    by_cases q : e.1 = n
    · rw [if_pos q] at h
      cases h
      rw [if_pos (by rw [q]; exact List.mem_append_right _ (List.mem_singleton.mpr rfl)), if_neg (by rw [q]; exact hn)]
      have := restLen_le t r n
      omega
    · rw [if_neg q] at h
      have ih := ih h
      by_cases p : e.1 ∈ r
      · rw [if_pos (List.mem_append_left _ p), if_pos p]
        exact ih
      · rw [if_neg (by simp [p, q]), if_neg p]
        omega
theorem restLen_nil {κ β : Type} [DecidableEq κ] (hd : List (κ × List β)) : restLen hd [] = edges hd := by
  induction hd with
  | nil => rfl
  | cons e t ih =>
    rw [restLen_cons, if_neg (by simp), ih]
    unfold edges
    simp
theorem edge_le {κ β : Type} [DecidableEq κ] (hd : List (κ × List β)) {n : κ} {ts : List β} (h : dget hd n = some ts) : ts.length ≤ edges hd := by
  induction hd with
  | nil => cases h
  | cons e t ih =>
    rw [dget_cons] at h
    unfold edges at ih ⊢
    rw [List.map_cons, List.sum_cons]
    split at h
    · cases h
      omega
    · have := ih h
      omega
theorem nsucc_le (hd : List (Int × List Th)) (i n : Int) {ts : List Th} (h : dget hd n = some ts) : (nsucc hd i n).length ≤ ts.length := by
  unfold nsucc
  rw [h, List.length_map]
  exact List.length_filter_le _ _
theorem nsucc_none (hd : List (Int × List Th)) (i n : Int) (h : dget hd n = none) : nsucc hd i n = [] := by
  unfold nsucc
  rw [h]
  rfl
theorem nphi_skip {hd : List (Int × List Th)} {r l : List Int} {n : Int} (h : l.getLast? = some n) : nphi hd r l.dropLast + 1 = nphi hd r l := by
  have e := congrArg List.length (getLast?_split h)
  rw [List.length_append, List.length_singleton] at e
  unfold nphi
  omega
theorem nphi_new {hd : List (Int × List Th)} {i : Int} {r l : List Int} {n : Int} (h : l.getLast? = some n) (hn : n ∉ r) : nphi hd (r ++ [n]) (l.dropLast ++ nsucc hd i n) + 1 ≤ nphi hd r l := by
  have e := congrArg List.length (getLast?_split h)
  rw [List.length_append, List.length_singleton] at e
  unfold nphi
  rw [List.length_append]
  cases q : dget hd n with
  | none =>
    rw [nsucc_none _ _ _ q]
    have := restLen_le hd r n
    simp only [List.length_nil]
    omega
  | some ts =>
    have h1 := nsucc_le hd i n q
    have h2 := restLen_drop hd r n hn q
    omega
theorem nearLoop_none {hd : List (Int × List Th)} {i : Int} {f : Nat} {r l : List Int} (h : l.getLast? = none) : nearLoop hd i (f + 1) r l = r := by rw [nearLoop, h]
theorem nearLoop_some {hd : List (Int × List Th)} {i : Int} {f : Nat} {r l : List Int} {n : Int} (h : l.getLast? = some n) :
    nearLoop hd i (f + 1) r l = if n ∈ r then nearLoop hd i f r l.dropLast else nearLoop hd i f (r ++ [n]) (l.dropLast ++ nsucc hd i n) := by rw [nearLoop, h]
theorem farLoop_none {hd : List (Th × List Th)} {f : Nat} {r l : List Th} (h : l.getLast? = none) : farLoop hd (f + 1) r l = r := by rw [farLoop, h]
theorem farLoop_skip {hd : List (Th × List Th)} {f : Nat} {r l : List Th} {n : Th} (h : l.getLast? = some n) (g : dget hd n = none) : farLoop hd (f + 1) r l = farLoop hd f r l.dropLast := by
  rw [farLoop, h]
  dsimp only
  rw [g]
theorem farLoop_some {hd : List (Th × List Th)} {f : Nat} {r l : List Th} {n : Th} {ts : List Th} (h : l.getLast? = some n) (g : dget hd n = some ts) :
    farLoop hd (f + 1) r l = if n ∈ r then farLoop hd f r l.dropLast else farLoop hd f (r ++ [n]) (l.dropLast ++ ts) := by
  rw [farLoop, h]
  dsimp only
  rw [g]
/-- the reached ones hold what is left, and all that reached ones hold is reached or left -/
theorem nearLoop_ok (hd : List (Int × List Th)) (i : Int) : ∀ (f : Nat) (r l : List Int), nphi hd r l < f → (∀ n ∈ r, ∀ m ∈ nsucc hd i n, m ∈ r ∨ m ∈ l) →
    (∀ n ∈ r, n ∈ nearLoop hd i f r l) ∧ (∀ n ∈ l, n ∈ nearLoop hd i f r l) ∧ ∀ n ∈ nearLoop hd i f r l, ∀ m ∈ nsucc hd i n, m ∈ nearLoop hd i f r l
  | 0, r, l, h, _ => absurd h (Nat.not_lt_zero _)
  | f + 1, r, l, h, c => by
    cases e : l.getLast? with
    | none =>
      rw [nearLoop_none e]
      have e' : l = [] := List.getLast?_eq_none_iff.mp e
      subst e'
      exact ⟨fun n hn => hn, fun n hn => (nomatch hn), fun n hn m hm => (c n hn m hm).resolve_right (fun q => nomatch q)⟩
    | some n =>
      rw [nearLoop_some e]
      have es := getLast?_split e
      by_cases hn : n ∈ r
      · rw [if_pos hn]
        obtain ⟨a, b, d⟩ := nearLoop_ok hd i f r l.dropLast (by have := nphi_skip (hd := hd) (r := r) e; omega) fun x hx m hm => by
          rcases c x hx m hm with q | q
          · exact .inl q
          · rw [es] at q
            rcases List.mem_append.mp q with q | q
            · exact .inr q
            · have : m = n := by simpa using q
              exact .inl (by rw [this]; exact hn)
        refine ⟨a, fun x hx => ?_, d⟩
        rw [es] at hx
        rcases List.mem_append.mp hx with q | q
        · exact b x q
        · have : x = n := by simpa using q
          rw [this]
          exact a n hn
      · rw [if_neg hn]
        obtain ⟨a, b, d⟩ := nearLoop_ok hd i f (r ++ [n]) (l.dropLast ++ nsucc hd i n) (by have := nphi_new (hd := hd) (i := i) (r := r) e hn; omega) fun x hx m hm => by
          rcases List.mem_append.mp hx with q | q
          · rcases c x q m hm with z | z
            · exact .inl (List.mem_append_left _ z)
            · rw [es] at z
              rcases List.mem_append.mp z with z | z
              · exact .inr (List.mem_append_left _ z)
              · exact .inl (List.mem_append_right _ z)
          · have : x = n := by simpa using q
            rw [this] at hm
            exact .inr (List.mem_append_right _ hm)
        refine ⟨fun x hx => a x (List.mem_append_left _ hx), fun x hx => ?_, d⟩
        rw [es] at hx
        rcases List.mem_append.mp hx with q | q
        · exact b x (List.mem_append_left _ q)
        · exact a x (List.mem_append_right _ q)
theorem nphi_start (hd : List (Int × List Th)) (l : List Int) : nphi hd [] l < l.length + edges hd + 1 := by
  unfold nphi
  rw [restLen_nil]
  omega
theorem nearReach_start {hd : List (Int × List Th)} {i : Int} {l : List Int} : ∀ n ∈ l, n ∈ nearReach l hd i :=
  (nearLoop_ok hd i _ [] l (nphi_start hd l) (fun n hn => nomatch hn)).2.1
theorem nearReach_closed {hd : List (Int × List Th)} {i : Int} {l : List Int} : ∀ n ∈ nearReach l hd i, ∀ m ∈ nsucc hd i n, m ∈ nearReach l hd i :=
  (nearLoop_ok hd i _ [] l (nphi_start hd l) (fun n hn => nomatch hn)).2.2
/-! the same of things far and near -/
theorem fphi_skip {hd : List (Th × List Th)} {r l : List Th} {n : Th} (h : l.getLast? = some n) : fphi hd r l.dropLast + 1 = fphi hd r l := by
  have e := congrArg List.length (getLast?_split h)
  rw [List.length_append, List.length_singleton] at e
  unfold fphi
  omega
theorem fphi_new {hd : List (Th × List Th)} {r l : List Th} {n : Th} {ts : List Th} (h : l.getLast? = some n) (hn : n ∉ r) (q : dget hd n = some ts) : fphi hd (r ++ [n]) (l.dropLast ++ ts) + 1 ≤ fphi hd r l := by
  have e := congrArg List.length (getLast?_split h)
  rw [List.length_append, List.length_singleton] at e
  unfold fphi
  rw [List.length_append]
  have h2 := restLen_drop hd r n hn q
  omega
theorem fphi_start (hd : List (Th × List Th)) (l : List Th) : fphi hd [] l < l.length + edges hd + 1 := by
  unfold fphi
  rw [restLen_nil]
  omega
theorem farLoop_ok (hd : List (Th × List Th)) : ∀ (f : Nat) (r l : List Th), fphi hd r l < f → (∀ n ∈ r, ∀ ts, dget hd n = some ts → ∀ m ∈ ts, m ∈ keys hd → m ∈ r ∨ m ∈ l) →
    (∀ n ∈ r, n ∈ farLoop hd f r l) ∧ (∀ n ∈ l, n ∈ keys hd → n ∈ farLoop hd f r l) ∧ ∀ n ∈ farLoop hd f r l, ∀ ts, dget hd n = some ts → ∀ m ∈ ts, m ∈ keys hd → m ∈ farLoop hd f r l
  | 0, r, l, h, _ => absurd h (Nat.not_lt_zero _)
  | f + 1, r, l, h, c => by
    cases e : l.getLast? with
    | none =>
      rw [farLoop_none e]
      have e' : l = [] := List.getLast?_eq_none_iff.mp e
      subst e'
      exact ⟨fun n hn => hn, fun n hn => (nomatch hn), fun n hn ts ht m hm hk => (c n hn ts ht m hm hk).resolve_right (fun q => nomatch q)⟩
    | some n =>
      have es := getLast?_split e
      cases g : dget hd n with
      | none =>
        rw [farLoop_skip e g]
        obtain ⟨a, b, d⟩ := farLoop_ok hd f r l.dropLast (by have := fphi_skip (hd := hd) (r := r) e; omega) fun x hx ts ht m hm hk => by
          rcases c x hx ts ht m hm hk with q | q
          · exact .inl q
          · rw [es] at q
            rcases List.mem_append.mp q with q | q
            · exact .inr q
            · have : m = n := by simpa using q
              rw [this] at hk
              exact absurd hk (dget_none.mp g)
        refine ⟨a, fun x hx hk => ?_, d⟩
        rw [es] at hx
        rcases List.mem_append.mp hx with q | q
        · exact b x q hk
        · have : x = n := by simpa using q
          rw [this] at hk
          exact absurd hk (dget_none.mp g)
      | some ts =>
        rw [farLoop_some e g]
        by_cases hn : n ∈ r
        · rw [if_pos hn]
          obtain ⟨a, b, d⟩ := farLoop_ok hd f r l.dropLast (by have := fphi_skip (hd := hd) (r := r) e; omega) fun x hx ts' ht m hm hk => by
            rcases c x hx ts' ht m hm hk with q | q
            · exact .inl q
            · rw [es] at q
              rcases List.mem_append.mp q with q | q
              · exact .inr q
              · have : m = n := by simpa using q
                exact .inl (by rw [this]; exact hn)
          refine ⟨a, fun x hx hk => ?_, d⟩
          rw [es] at hx
          rcases List.mem_append.mp hx with q | q
          · exact b x q hk
          · have : x = n := by simpa using q
            rw [this]
            exact a n hn
        · rw [if_neg hn]
          obtain ⟨a, b, d⟩ := farLoop_ok hd f (r ++ [n]) (l.dropLast ++ ts) (by have := fphi_new (hd := hd) (r := r) e hn g; omega) fun x hx ts' ht m hm hk => by
            rcases List.mem_append.mp hx with q | q
            · rcases c x q ts' ht m hm hk with z | z
              · exact .inl (List.mem_append_left _ z)
              · rw [es] at z
                rcases List.mem_append.mp z with z | z
                · exact .inr (List.mem_append_left _ z)
                · exact .inl (List.mem_append_right _ z)
            · have : x = n := by simpa using q
              rw [this, g] at ht
              cases ht
              exact .inr (List.mem_append_right _ hm)
          refine ⟨fun x hx => a x (List.mem_append_left _ hx), fun x hx hk => ?_, d⟩
          rw [es] at hx
          rcases List.mem_append.mp hx with q | q
          · exact b x (List.mem_append_left _ q) hk
          · exact a x (List.mem_append_right _ q)
theorem reachedFrom_start {roots : List Th} {hd : List (Th × List Th)} : ∀ n ∈ roots, n ∈ keys hd → n ∈ reachedFrom roots hd :=
  (farLoop_ok hd _ [] roots (fphi_start hd roots) (fun n hn => nomatch hn)).2.1
theorem reachedFrom_closed {roots : List Th} {hd : List (Th × List Th)} : ∀ n ∈ reachedFrom roots hd, ∀ ts, dget hd n = some ts → ∀ m ∈ ts, m ∈ keys hd → m ∈ reachedFrom roots hd :=
  (farLoop_ok hd _ [] roots (fphi_start hd roots) (fun n hn => nomatch hn)).2.2
end Fm

set_option linter.all false
namespace Fm
/-- a house by itself: its number is i -/
structure HG (i : Int) (S : Hs) : Prop where
  ko : keys S.outs = keys S.holding
  nd : (keys S.holding).Nodup
  near : ∀ t ∈ S.hand, t.1 = i → t.2 ∈ keys S.holding
  far : ∀ t ∈ S.hand, t.1 ≠ i → t ∈ keys S.recs
  inn : ∀ e ∈ S.holding, ∀ t ∈ e.2, t.1 = i → t.2 ∈ keys S.holding
  inf : ∀ e ∈ S.holding, ∀ t ∈ e.2, t.1 ≠ i → t ∈ keys S.recs
  num : ∀ n ∈ keys S.holding, 0 ≤ n ∧ n < S.made
  rf : ∀ t ∈ keys S.recs, t.1 ≠ i
  rn : (keys S.recs).Nodup
  rw : ∀ e ∈ S.recs, 0 ≤ e.2
  md : 0 ≤ S.made
/-- sizes of a house -/
structure HB (S : Hs) : Prop where
  hd : S.hand.length ≤ 1000
  hg : S.holding.length ≤ 1000
  ho : S.outs.length ≤ 1000
  hr : S.recs.length ≤ 1000
  inn : ∀ e ∈ S.holding, e.2.length ≤ 1000
/-- things of few houses with small numbers -/
def Sm (t : Th) : Prop := 0 ≤ t.1 ∧ t.1 < 4 ∧ 0 ≤ t.2 ∧ t.2 < 40
structure HSm (S : Hs) : Prop where
  hd : ∀ t ∈ S.hand, Sm t
  nh : S.hand.Nodup
  inn : ∀ e ∈ S.holding, e.2.Nodup ∧ ∀ t ∈ e.2, Sm t
  rc : ∀ t ∈ keys S.recs, Sm t
end Fm

set_option Elab.async false
set_option linter.all false
set_option maxRecDepth 100000
set_option maxHeartbeats 4000000
namespace FhR
open PySem PySem.Spec PyProof.Rows L2
/-! ### sorted(dv): any source, any order -/
section
variable {prog : Program} {w : World} {A : Around} {E : Value → Shared → Prop} {s : Shared} {T : String} {r dv : Addr} {n : Nat} {P : Nat → Value → Prop} {OK : Heap → Prop}
theorem sorted_src {ltv : Value → Value → Bool} {Q : Value → Shared → Prop} (K : PySem.W.KdlSrc prog w T r dv n P OK) (hh : A.handled = none) (hok : OK s.heap) (hn : n ≤ sizeLine) (O : SrtO.Swo ltv)
    (hS : ∀ (vsv : List Value) (h₁ : Heap) (a : Addr) (tkv : Nat), vsv.length = n → (∀ (j : Nat) (v : Value), vsv[j]? = some v → P j v) → 2 ≤ vsv.length → h₁.get? a = some (seqObj "list" vsv.toArray 0) → (∀ bv ov, s.heap.get? bv = some ov → h₁.get? bv = some ov) →
      SrtO.SortableO prog w A.in1.in1 { s with heap := h₁, toks := tkv } a vsv ltv)
    (h : ∀ (vsv out : List Value) (hv1 h' : Heap) (cv tkv : Nat), vsv.length = n → (∀ (j : Nat) (v : Value), vsv[j]? = some v → P j v) → SrtO.Srtd ltv out → SrtO.Stb ltv out vsv → (∀ bv ov, s.heap.get? bv = some ov → hv1.get? bv = some ov) →
      (∀ bv ov, hv1.get? bv = some ov → h'.get? bv = some ov) → h'.get? hv1.objs.size = some (seqObj "list" out.toArray cv) → Q (.ref hv1.objs.size) { s with heap := h', toks := tkv }) :
    wpAny (model prog w) A (call (.builtin "sorted") [.ref r]) Q E s := by
  refine Calls.call_function_entry kind_sorted plain_sorted entry_sorted (args_sorted1 _) ?_
  unfold Builtin.«sorted»
  refine wpAny_bind (m := checkCount "sorted" 1 1 _) (wpAny_pure ?_)
  refine wpAny_bind (PySem.W.kdu_collect (A := A.in1) K hh hok hn fun hv1 tkv accv kp hacc => ?_)
  have hlv : accv.toList.length = n := by rw [Array.length_toList]; exact hacc.1
  have hat : ∀ (j : Nat) (v : Value), accv.toList[j]? = some v → P j v := fun j v ev => hacc.2 j v (by rw [← Array.getElem?_toList]; exact ev)
  have hzv : accv.toList.length ≤ sizeLine := by rw [hlv]; exact hn
  refine wpAny_bind (wpAny_newList ?_ hzv)
  have hL : (hv1.push (seqObj "list" accv.toList.toArray 0)).get? hv1.objs.size = some (seqObj "list" accv.toList.toArray 0) := Heap.get?_push_size _ rfl
  show wpAny _ _ _ _ _ { s with heap := hv1.push (seqObj "list" accv.toList.toArray 0), toks := tkv }
  have kp1 : ∀ bv ov, s.heap.get? bv = some ov → (hv1.push (seqObj "list" accv.toList.toArray 0)).get? bv = some ov := fun bv ov ev => Heap.get?_push_of_some _ (kp bv ov ev)
  refine wpAny_bind (wpAny_holding (wpAny_call_entry slot_list_sort ⟨_, hL, rfl⟩ entry_list_sort
    (SrtO.list_sort_ord (s := { s with heap := hv1.push (seqObj "list" accv.toList.toArray 0), toks := tkv }) O hL hzv (fun hv2 => hS _ _ _ tkv hlv hat hv2 hL kp1) fun out hsv hbv => ⟨_, rfl, ?_⟩) (args_list_sort _)))
  obtain ⟨cv, hc⟩ := sortedHeap_at (vs := accv.toList) (out := out.toArray) hL
  refine wpAny_pure ⟨_, rfl, h accv.toList out hv1 _ cv tkv hlv hat hsv hbv kp (fun bv ov ev => ?_) hc⟩
  have hbv' : bv < hv1.objs.size := Heap.lt_size ev
  rw [sortedHeap_old (Nat.ne_of_lt hbv') (by rw [size_push']; exact Nat.lt_succ_of_lt hbv')]
  exact Heap.get?_push_of_some _ ev
end
/-! ### the layer's rules -/
/-- the keys of a dict of pairs -/
abbrev kP (t : Int × Int) : List Key := [Sum.inl t.1, Sum.inl t.2]
theorem kP_inj {a bv : Int × Int} (h : kP a = kP bv) : a = bv := by
  injection h with hv1 hv2
  injection hv2 with hv3 _
  exact Prod.ext (Sum.inl.inj hv1) (Sum.inl.inj hv3)
section
variable {X : Cx}
/-- sorted(dv), d's keys ints -/
theorem call_sortedI (hc : X.calm = true) : CallR X (.builtin "sorted") (fun xs Hx Q => ∃ (a : Addr) (kvsv : List (Key × V)) (ksv : List Int), xs = [.ref a] ∧ Rd Hx a (.dK kvsv) ∧ kvsv.map (·.1) = ksv.map Sum.inl ∧
    ∀ (ys : List Int) (p : Addr), ys.Perm ksv → ys.Pairwise (· ≤ ·) → Hx p = none → Q (.ref p) (upd Hx p (.lst (ys.map V.int)))) := by
  intro pz s τ Hx xs usv Q Iw r qv
  obtain ⟨a, kvsv, ksv, rfl, hdv, hks, qv⟩ := qv
  obtain ⟨uv, rfl, rxv⟩ := vals1 r
  cases rxv
  obtain ⟨zv, lo, vsv, relv, dd⟩ := dk_rd Iw.hok hdv
  obtain ⟨epv, hat⟩ := dd.dictAt
  have hkeysv : vsv.map (·.1) = ksv.map Sum.inl := relv.keys.symm.trans hks
  have hlv : vsv.length = ksv.length := by
    have ev := congrArg List.length hkeysv
    simpa using ev
  have intsA : ∀ usv : List Value, usv.length = vsv.length → (∀ (j : Nat) (v : Value), usv[j]? = some v → ∃ kv x, vsv[j]? = some (kv, x) ∧ (mixKind X.prog X.w).is kv v = true) → IntsAre usv ksv := fun usv huv hj => ints_each (huv.trans hlv) fun j v ev => by
    obtain ⟨kv, x, ev1, ev2⟩ := hj j v ev
    have ev3 : (vsv.map (·.1))[j]? = some kv := by rw [List.getElem?_map, ev1]; rfl
    rw [hkeysv, List.getElem?_map] at ev3
    cases ev4 : ksv[j]? with
    | none => rw [ev4] at ev3; cases ev3
    | some yv =>
      rw [ev4] at ev3
      have ev5 : Sum.inl yv = kv := Option.some.inj ev3
      subst ev5
      rcases keyIs_shape (show keyIs (Sum.inl yv) v = true from ev2) with ⟨i, t, ek, ev⟩ | ⟨zv, t, ek, ev⟩
      · cases ek
        exact ⟨yv, t, rfl, ev⟩
      · cases ek
  refine sorted_src (PySem.W.kdl_dict (knd := mixKind X.prog X.w) (kvs := vsv) (ep := epv) lo) (Iw.ok.hd hc) hat (by rw [← relv.length]; exact zv) SrtO.swo_int
    (fun usv h₁ a' tkv huv hj hv2 _ _ => SrtO.ints_sortable (intsA usv huv hj) hv2) fun usv out hv1 h' cv tkv huv hj hsv hbv k1 k2 ev => ?_
  obtain ⟨g1, g2, g3⟩ := SrtO.ints_out (intsA usv huv hj) hsv hbv
  have Iw1 : Inv X pz τ Hx { s with heap := hv1, toks := tkv } := Iw.kept k1
  refine ⟨.ref hv1.objs.size, _, Iw1.laid (t' := tkv) (o := .lst ((out.map SrtO.iv).map V.int)) k2 (Nat.le_refl _) ⟨?_, out, cv, vals_of_ints g1, ev⟩, rfl, qv _ _ g2 g3 (Iw1.hok.fresh (Nat.le_refl _))⟩
  rw [List.length_map, g2.length_eq, ← hlv, ← relv.length]
  exact zv
theorem kt_refs {Hx : Hp} : ∀ {kvsv : List (List Key × V)} {xs : List (List Key × Addr × Value)} {ts : List (Int × Int)}, KT Hx kvsv xs → kvsv.map (·.1) = ts.map kP → Paired (fun x t => Hx x.2.1 = some (.tup [.int t.1, .int t.2])) xs ts
  | [], [], [], _, _ => .nil
  | _ :: _, _ :: _, t :: ts, .cons h r, ev => by
    rw [List.map_cons, List.map_cons] at ev
    injection ev with ev1 ev2
    refine .cons ?_ (kt_refs r ev2)
    rw [h.2.1, ev1]
    rfl
  | [], [], _ :: _, _, ev => by simp at ev
  | _ :: _, _ :: _, [], _, ev => by simp at ev
/-- sorted(dv), d's keys pairs of ints -/
theorem call_sortedT (hc : X.calm = true) : CallR X (.builtin "sorted") (fun xs Hx Q => ∃ (a : Addr) (kvsv : List (List Key × V)) (ts : List (Int × Int)), xs = [.ref a] ∧ Rd Hx a (.dT kvsv) ∧ kvsv.map (·.1) = ts.map kP ∧
    ∀ (bs : List Addr) (kv : V → Int × Int) (p : Addr), Hx p = none → SrtO.Srtd (ltP kv) (bs.map V.ref) → ((bs.map V.ref).map kv).Perm ts → (∀ bv ∈ bs, Hx bv = some (.tup [.int (kv (.ref bv)).1, .int (kv (.ref bv)).2])) → Q (.ref p) (upd Hx p (.lst (bs.map V.ref)))) := by
  intro pz s τ Hx xs usv Q Iw r qv
  obtain ⟨dv, kvsv, ts, rfl, hdv, hks, qv⟩ := qv
  obtain ⟨uv, rfl, rxv⟩ := r.one
  cases rxv
  obtain ⟨zv, hs0, ksv, prv, ov, esv, epv, hov, hxv, hdt, he, hn⟩ := (show ObjOk X.prog X.w Hx s.heap dv (.dT kvsv) from hdv.ok Iw.hok)
  have l1 : esv.size = ksv.length := size_of_entries he
  have l2 : kvsv.length = ksv.length := Paired.length prv
  have hrefs := kt_refs prv hks
  have each : ∀ usv : List Value, usv.length = esv.size → (∀ (j : Nat) (v : Value), usv[j]? = some v → ∃ en : DictEntry, esv[j]? = some en ∧ v = en.key) → usv = (ksv.map fun x => x.2.1).map Value.ref := fun usv huv hj => by
    apply List.ext_getElem?
    intro j
    rw [List.getElem?_map, List.getElem?_map]
    cases hj' : usv[j]? with
    | none =>
      have hv1 := List.getElem?_eq_none_iff.mp hj'
      rw [List.getElem?_eq_none (by omega)]
      rfl
    | some v =>
      obtain ⟨en, hen, hv⟩ := hj j v hj'
      have qe := entry_at he j
      rw [hen] at qe
      cases hbv : ksv[j]? with
      | none =>
        rw [hbv] at qe
        exact nomatch (show some en = none from qe)
      | some bv =>
        rw [hbv] at qe
        have ev2 : en = entryOfKey (tupleKind (mixKind X.prog X.w)) bv := Option.some.inj qe
        rw [hv, ev2]
        rfl
  -- a pair's numbers, by itsv address
  obtain ⟨kf, hkf⟩ : ∃ kf : Addr → Int × Int, ∀ bv x yv, Hx bv = some (.tup [.int x, .int yv]) → kf bv = (x, yv) := by
    refine ⟨fun bv => match Hx bv with | some (.tup [.int x, .int yv]) => (x, yv) | _ => (0, 0), fun bv x yv ev => ?_⟩
    simp only [ev]
  let kv : V → Int × Int := fun v => match v with | .ref bv => kf bv | _ => (0, 0)
  have pairs : ∀ v ∈ (ksv.map fun x => x.2.1).map Value.ref, ∃ bv, v = Value.ref bv ∧ Hx bv = some (.tup [.int (kf bv).1, .int (kf bv).2]) := fun v hv => by
    obtain ⟨bv, hbv, rfl⟩ := List.mem_map.mp hv
    obtain ⟨x, hxv', rfl⟩ := List.mem_map.mp hbv
    obtain ⟨i, hi, ei⟩ := List.mem_iff_getElem.mp hxv'
    obtain ⟨t, ht, hr⟩ := paired_get hrefs (show ksv[i]? = some x by rw [List.getElem?_eq_getElem hi, ei])
    refine ⟨_, rfl, ?_⟩
    rw [hkf _ _ _ hr]
    exact hr
  have isp : ∀ (h₁ : Heap), (∀ bv ov, s.heap.get? bv = some ov → h₁.get? bv = some ov) → ∀ v ∈ (ksv.map fun x => x.2.1).map Value.ref, Srt.IsPair h₁ v (kv (backV v)).1 (kv (backV v)).2 := fun h₁ k1 v hv => by
    obtain ⟨bv, rfl, hbv⟩ := pairs v hv
    obtain ⟨_, its2v, rv2, ov, hov, hc, n, hdv⟩ := Iw.hok _ _ hbv
    obtain ⟨uv1, uv2, rfl, ri, rj⟩ := vals2 rv2
    obtain ⟨t1, rfl⟩ := ri
    obtain ⟨t2, rfl⟩ := rj
    exact ⟨bv, ov, t1, t2, n, rfl, k1 _ _ hov, hc, hdv⟩
  refine sorted_src (kdl_raw hs0 hxv hdt) (Iw.ok.hd hc) hov (by omega) (SrtO.swo_lex fun v => kv (backV v)) (fun usv h₁ a' tkv huv hj hv2 ha kp => ?_) fun usv out hv1 h' cv tkv huv hj hsv hbv k1 k2 ev => ?_
  · rw [each usv huv hj] at hv2 ⊢
    refine SrtO.pairs_sortableO (s := { s with heap := h₁, toks := tkv }) (by omega) (isp h₁ kp) fun ov ev => ?_
    have ev' : some ov = some (seqObj "list" usv.toArray 0) := ev.symm.trans ha
    cases ev'
    intro cv
    exact absurd (Value.type.inj cv) (by decide)
  · have eu := each usv huv hj
    rw [eu] at hbv
    have Iw1 : Inv X pz τ Hx { s with heap := hv1, toks := tkv } := Iw.kept k1
    obtain ⟨bs, hbs⟩ : ∃ bs : List Addr, out = bs.map Value.ref := by
      refine ⟨out.map fun v => match v with | .ref bv => bv | _ => 0, ?_⟩
      rw [List.map_map]
      refine (List.map_id' _).symm.trans (List.map_congr_left fun v hv => ?_)
      obtain ⟨bv, rfl, _⟩ := pairs v (hbv.perm.mem_iff.mp hv)
      rfl
    subst hbs
    have hlen : (bs.map V.ref).length ≤ sizeLine := by
      have := hbv.len
      simp only [List.length_map] at this ⊢
      omega
    have eback : ∀ lv : List Addr, (lv.map Value.ref).map backV = lv.map V.ref := fun lv => by
      rw [List.map_map]
      rfl
    have hperm := hbv.perm
    refine ⟨.ref hv1.objs.size, _, Iw1.laid (t' := tkv) (o := .lst (bs.map V.ref)) k2 (Nat.le_refl _) ⟨hlen, bs.map Value.ref, cv, vals_refs _, ev⟩, rfl, qv bs kv _ (Iw1.hok.fresh (Nat.le_refl _)) ?_ ?_ fun bv hbv' => ?_⟩
    · have := SrtO.srtd_map (lt := ltP kv) (f := backV) hsv
      rw [eback] at this
      exact this
    · have p1 := (hperm.map backV).map kv
      rw [eback, eback] at p1
      refine p1.trans (List.Perm.of_eq ?_)
      have : ∀ {ksv : List (List Key × Addr × Value)} {ts : List (Int × Int)}, Paired (fun x t => Hx x.2.1 = some (.tup [.int t.1, .int t.2])) ksv ts → ((ksv.map fun x => x.2.1).map V.ref).map kv = ts := by
        intro ksv ts hp
        induction hp with
        | nil => rfl
        | cons h _ ih =>
          rw [List.map_cons, List.map_cons, List.map_cons, ih]
          congr 1
          exact hkf _ _ _ h
      exact this hrefs
    · obtain ⟨b2, ev2, hv2⟩ := pairs (.ref bv) (hperm.mem_iff.mp (List.mem_map.mpr ⟨bv, hbv', rfl⟩))
      cases ev2
      exact hv2
end
end FhR

set_option Elab.async false
set_option linter.all false
set_option maxRecDepth 100000
set_option maxHeartbeats 4000000
namespace FhR
open PySem PySem.Spec PyProof.Rows L2
section
variable {X : Cx}
/-- dv.pop(kv), kv a tuple that is there -/
theorem mt_popT1 (huv : X.A.units + 1 < cLine) : MtR X "dict.pop" (fun x xs Hx Q => ∃ (a : Addr) (kvsv : List (List Key × V)) (kv : List Key) (bv : Addr) (v : V), x = .ref a ∧ xs = [.ref bv] ∧ Hx a = some (.dT kvsv) ∧ Hx bv = some (.tup (kv.map kV)) ∧
    valV kvsv kv = some v ∧ Q v (upd Hx a (.dT (dropK kvsv kv)))) := by
  intro pz s τ Hx x xs v usv Q Iw rxv rxs h
  obtain ⟨a, kvsv, kv, bv, wv0, rfl, rfl, ha, hbv, hv, qv⟩ := h
  cases rxv
  obtain ⟨uv1, rfl, rv1⟩ := vals1 rxs
  cases rv1
  obtain ⟨zv, hdv, ys, relv, dd⟩ := dt_of Iw.hok ha
  have hzv : ys.length ≤ sizeLine := by rw [← Paired.length relv]; exact zv
  have r := relv.val kv
  rw [hv] at r
  obtain ⟨p, hp, rp⟩ : ∃ p, atKey ys kv = some p ∧ RelV wv0 p.2 := by
    cases ev : atKey ys kv with
    | none => rw [ev] at r; exact (show False from r).elim
    | some p => rw [ev] at r; exact ⟨p, rfl, r⟩
  refine call_pop_heap (knd := tupleKind (mixKind X.prog X.w)) (.inl rfl) (PySem.F.args_dict_pop_2 _ _) (tupleKind_room_in1 huv) (key_of Iw.hok hbv) hdv dd hp (fun h' dd' hsv => ?_) hzv
  obtain ⟨ov, esv, epv, hqv, hv2, hv3, hv4, _, hv5⟩ := dd'
  refine ⟨wv0, _, d_write (ob := .dT (dropK kvsv kv)) Iw (by rw [ha]; exact True.intro) hsv ⟨ov, hqv⟩ ⟨Nat.le_trans (dropK_le kvsv kv) zv, hdv, _, (DX.KT_drop kv relv).keeps fun cv lv ec => ?_, ov, esv, epv, hqv, hv2, hv3, hv4, hv5⟩, rp, qv⟩
  rw [upd_ne (ne_of ec ha fun zv => nomatch zv)]
  exact ec
/-- merged into a dict of tuple keys -/
def mergeT (kvsv more : List (List Key × V)) : List (List Key × V) := more.foldl (fun accv kv => putK accv kv.1 kv.2) kvsv
theorem kt_merge {Hx : Hp} : ∀ {more kvsv : List (List Key × V)} {ys xs : List (List Key × Addr × Value)}, KT Hx kvsv xs → KT Hx more ys → KT Hx (mergeT kvsv more) (storedAllH xs ys)
  | [], _, [], _, r, .nil => r
  | ev :: mv, kvsv, yv :: ys, xs, r, .cons h t => by
    have hv2 := h.2.1
    have hv1 := h.1
    show KT Hx (mergeT (putK kvsv ev.1 ev.2) mv) (storedAllH (storedH xs yv.1 yv.2.1 yv.2.2) ys)
    rw [← hv1]
    exact kt_merge (r.put ev.1 hv2 h.2.2) t
theorem mergeT_len : ∀ (more kvsv : List (List Key × V)), (mergeT kvsv more).length ≤ kvsv.length + more.length
  | [], _ => Nat.le_refl _
  | ev :: mv, kvsv => by
    have hv1 := mergeT_len mv (putK kvsv ev.1 ev.2)
    have hv2 := length_putK kvsv ev.1 ev.2
    show (mergeT (putK kvsv ev.1 ev.2) mv).length ≤ kvsv.length + (mv.length + 1)
    omega
/-- the hash of a tuple key -/
abbrev hT (X : Cx) (kv : List Key) : Int := (tupleKind (mixKind X.prog X.w)).hash kv
theorem kt_tuples {s : Shared} {P : Program} {w : World} {Hx : Hp} : ∀ {kvsv : List (List Key × V)} {ys : List (List Key × Addr × Value)}, HOk P w Hx s.heap → KT Hx kvsv ys → ∀ x ∈ ys, s.TypeIs (.ref x.2.1) "tuple"
  | [], [], _, .nil, _, hxv => nomatch hxv
  | _ :: _, _ :: _, ok, .cons h t, x, hxv => by
    rcases List.mem_cons.mp hxv with rfl | qv
    · obtain ⟨_, itsv, _, ov, hov, hc, _⟩ := ok _ _ h.2.1
      exact ⟨ov, hov, hc⟩
    · exact kt_tuples ok t x qv
theorem kt_hash {X : Cx} {Hx : Hp} {kvsv : List (List Key × V)} {ys : List (List Key × Addr × Value)} (r : KT Hx kvsv ys) : (ys.map fun x => (tupleKind (mixKind X.prog X.w)).hash x.1) = kvsv.map fun x => hT X x.1 := by
  induction r with
  | nil => rfl
  | cons h _ ih => rw [List.map_cons, List.map_cons, ih, h.1]
/-- dv.update(ev), both of tuple keys -/
theorem mt_updT (huv : X.A.units + 1 < cLine) : MtR X "dict.update" (fun x xs Hx Q => ∃ (a bv : Addr) (kvsv more : List (List Key × V)), x = .ref a ∧ xs = [.ref bv] ∧ Hx a = some (.dT kvsv) ∧ Hx bv = some (.dT more) ∧ a ≠ bv ∧
    (more.map fun p => hT X p.1).Nodup ∧ kvsv.length + more.length ≤ sizeLine ∧ Q .non (upd Hx a (.dT (mergeT kvsv more)))) := by
  intro pz s τ Hx x xs v usv Q Iw rxv rxs h
  obtain ⟨a, bv, kvsv, more, rfl, rfl, ha, hbv, hab, hn, hzv, qv⟩ := h
  cases rxv
  obtain ⟨uv1, rfl, rv1⟩ := vals1 rxs
  cases rv1
  obtain ⟨zv, hdv, xs', relv, dd⟩ := dt_of Iw.hok ha
  obtain ⟨z2, hd2, ys', rel2, dd2⟩ := dt_of Iw.hok hbv
  have l1 := Paired.length relv
  have l2 := Paired.length rel2
  refine call_update_dictH (knd := tupleKind (mixKind X.prog X.w)) (tupleKind_room_in1 huv) hab hd2 dd dd2 (.inr ⟨kt_tuples Iw.hok rel2, by rw [kt_hash (X := X) rel2]; exact hn⟩) (by omega) fun h' dd' _ hsv => ?_
  obtain ⟨ov, esv, epv, hqv, hv2, hv3, hv4, _, hv5⟩ := dd'
  refine ⟨.non, _, d_write (t' := s.toks) (ob := .dT (mergeT kvsv more)) Iw (by rw [ha]; exact True.intro) hsv ⟨ov, hqv⟩ ⟨Nat.le_trans (mergeT_len _ _) hzv, hdv, _, (kt_merge relv rel2).keeps fun cv lv ec => ?_, ov, esv, epv, hqv, hv2, hv3, hv4, hv5⟩, rfl, qv⟩
  rw [upd_ne (ne_of ec ha fun zv => nomatch zv)]
  exact ec
/-- dict(dv), dv of tuple keys -/
theorem call_dictT (huv : X.A.units + 3 < cLine) : CallR X (.type "dict") (fun xs Hx Q => ∃ (a : Addr) (kvsv : List (List Key × V)), xs = [.ref a] ∧ Hx a = some (.dT kvsv) ∧ (kvsv.map fun p => hT X p.1).Nodup ∧ ∀ p, Hx p = none → Q (.ref p) (upd Hx p (.dT kvsv))) := by
  intro pz s τ Hx xs usv Q Iw r qv
  obtain ⟨ov, kvsv, rfl, hdv, hn, qv⟩ := qv
  obtain ⟨uv, rfl, rxv⟩ := vals1 r
  cases rxv
  obtain ⟨zv, lo, ys, relv, dd⟩ := dt_of Iw.hok hdv
  have l1 := Paired.length relv
  have hmv : (s.heap.objs.size == sysModules) = false := beq_eq_false_iff_ne.mpr (Nat.ne_of_gt Iw.big)
  refine callType_codes (Q₁ := fun obj s₁ => obj = .ref s.heap.objs.size ∧ s₁ = { s with heap := s.heap.push { cls := .type "dict", data := .dict #[] } }) F.kt_called_dict (F.kt_typeCall_dict_1 _) F.entry_dict_init (kt_code_dict_new _ ⟨rfl, rfl⟩) ?_
  rintro obj s₁ ⟨rfl, rfl⟩
  have Iw1 : Inv X pz τ (upd Hx s.heap.objs.size (.dT [])) { s with heap := s.heap.push { cls := .type "dict", data := .dict #[] } } :=
    Iw.laid (t' := s.toks) (fun bv uv ev => Heap.get?_push_of_some _ ev) (Nat.le_refl _) (dt_empty s.heap Iw.big)
  have hne : ov ≠ s.heap.objs.size := ne_of_none hdv (Iw.hok.fresh (Nat.le_refl _))
  obtain ⟨z1, hd1, xs1, rel1, dd1⟩ := dt_of Iw1.hok (show upd Hx s.heap.objs.size (.dT []) s.heap.objs.size = some (.dT []) from upd_same)
  obtain ⟨z2, hd2, ys2, rel2, dd2⟩ := dt_of Iw1.hok (show upd Hx s.heap.objs.size (.dT []) ov = some (.dT kvsv) by rw [upd_ne hne]; exact hdv)
  have hx1 : xs1 = [] := by cases rel1; rfl
  subst hx1
  have l2 := Paired.length rel2
  refine ⟨dd1.typeIs, F.args_dict_init_2 _ _, ?_⟩
  unfold Builtin.«dict.__init__»
  refine wpAny_bind ?_
  unfold Builtin.Dict.selfAndRest
  refine wpAny_bind (wpAny_notOrdered_dict dd1.typeIs ?_)
  show wpAny _ _ (pure (s.heap.objs.size, [Value.ref ov])) _ _ _
  refine wpAny_pure ?_
  show wpAny _ _ (Builtin.Dict.updateFrom "dict.__init__" s.heap.objs.size (.ref ov) [] .none) _ _ _
  refine updateFrom_dictH (knd := tupleKind (mixKind X.prog X.w)) (A := X.A.in1) (s := { s with heap := s.heap.push { cls := .type "dict", data := .dict #[] } }) .none (show X.A.in1.in1.units < cLine by show X.A.units + 1 + 1 < cLine; omega) (Ne.symm hne) hd2 dd1 dd2
    (.inr ⟨kt_tuples (s := { s with heap := s.heap.push { cls := .type "dict", data := .dict #[] } }) Iw1.hok rel2, by rw [kt_hash (X := X) rel2]; exact hn⟩) (by simp only [List.length_nil]; omega) fun h' dd' _ hsv => ?_
  have nod : (ys2.map (·.1)).Nodup := dd2.nodup
  rw [storedAllH_nil_of_nodup _ nod] at dd'
  obtain ⟨oo, esv, epv, hqv, hv2, hv3, hv4, _, hv5⟩ := dd'
  refine ⟨rfl, .ref s.heap.objs.size, upd Hx s.heap.objs.size (.dT kvsv), ?_, rfl, qv _ (Iw.hok.fresh (Nat.le_refl _))⟩
  have Iw2 : Inv X pz τ (upd (upd Hx s.heap.objs.size (.dT [])) s.heap.objs.size (.dT kvsv)) { s with heap := h', toks := s.toks } :=
    d_write (s := { s with heap := s.heap.push { cls := .type "dict", data := .dict #[] } }) (t' := s.toks) (ob := .dT kvsv) Iw1 (by rw [upd_same]; exact True.intro) hsv ⟨oo, hqv⟩ ⟨zv, hmv, ys2, rel2.keeps fun cv lv ec => ?_, oo, esv, epv, hqv, hv2, hv3, hv4, hv5⟩
  · rw [upd_upd] at Iw2
    exact Iw2
  · rw [upd_ne (ne_of ec upd_same fun zv => nomatch zv)]
    exact ec
end
/-! ### xs.extend(a tuple) -/
section
open PySem.SeqAt
open PySem.AutoSeq1 (wpAny_loadPart')
open PySem.MeetsSeq PySem.MeetsSeq2 PySem.MeetsSeq3
theorem ext_tuple (lv : Addr) (itemsv : Array Value) (n : Nat) (bv : Addr) (items2v : Array Value) (nv2 : Nat) (dd : Option Addr) (sl : Array (Option Value)) (hs0 : ¬(!itemsv.isEmpty && Builtin.List.listTooLong (itemsv.size + items2v.size)) = true) (hs1 : itemsv.size ≤ sizeLine) (hs2 : itemsv.size + items2v.size ≤ sizeLine + 1) :
    Meets (Builtin.«list.extend» ⟨[.ref lv, .ref bv], []⟩) (fun _ R s => s.heap.get? lv = some { cls := .type "list", dict := none, data := .seq itemsv n, slots := #[] } ∧ s.heap.get? bv = some { cls := .type "tuple", dict := dd, data := .seq items2v nv2, slots := sl } ∧ R (.ok (.ret Value.none)) { s with heap := s.heap.update lv (Obj.mapSeq fun x => x ++ items2v), toks := s.toks }) :=
  .of_wp fun prog w A R s h => by
    obtain ⟨hp, g, dv, tkv, os⟩ := s
    obtain ⟨hlv, hbv, h⟩ := h
    have fv1 := AutoSeq1.idx_int
    have fv2 := AutoSeq1.sub_tuple_tuple
    have fv3 := AutoSeq1.sub_list_list
    have fv4 := AutoSeq1.sub_tuple_list
    have fv5 := AutoSeq1.sub_list_tuple
    have hzv' : (itemsv ++ items2v).size ≤ sizeLine + 1 := by rw [Array.size_append]; exact hs2
    wp_walk using (wpAny_updateSeq hlv rfl (hz := hs1) (_hz' := hzv')), wpAny_loadPart' hlv, wpAny_loadPart' hbv
    exact ⟨_, rfl, h⟩
end
section
variable {X : Cx}
theorem mt_extT : MtM X "list.extend" (fun x vsv Hx Q => ∃ lv bv xs zs, x = .ref lv ∧ vsv = [.ref bv] ∧ Hx lv = some (.lst xs) ∧ Hx bv = some (.tup zs) ∧ xs.length + zs.length ≤ sizeLine ∧ Q .non (upd Hx lv (.lst (xs ++ zs)))) := by
  intro pz s τ Hx x vsv v usv Q Iw rxv rvv h
  obtain ⟨lv, bv, xs, zs, rfl, rfl, hH, hB, hzv, qv⟩ := h
  cases rxv
  obtain ⟨uv, rfl, ru⟩ := rvv.one
  cases ru
  obtain ⟨zv, itsv, n, r, hlv, ev⟩ := Iw.lstM hH
  obtain ⟨z2, its2v, rv2, ov2, ho2, hc2, nv2, hd2⟩ := Iw.hok _ _ hB
  obtain ⟨c2, dd2, dt2, sl2⟩ := ov2
  subst hc2
  subst hd2
  have hl2 := rv2.length
  have hsz : itsv.toArray.size + its2v.toArray.size ≤ sizeLine := by rw [List.size_toArray, List.size_toArray]; omega
  have nlv : ¬ (!itsv.toArray.isEmpty && Builtin.List.listTooLong (itsv.toArray.size + its2v.toArray.size)) = true := by
    rw [notLongL hsz, Bool.and_false]
    exact Bool.false_ne_true
  refine call_meets F.slot_list_extend ⟨_, ev, rfl⟩ F.entry_list_extend (F.args_list_extend_2 _ _) (ext_tuple lv itsv.toArray n bv its2v.toArray nv2 dd2 sl2 nlv (by rw [List.size_toArray]; omega) (by omega)) ⟨ev, ho2, ?_⟩
  refine ⟨.non, _, Iw.lset (its' := itsv ++ its2v) hH ev (by simp) (r.append rv2) ?_, rfl, qv⟩
  rw [List.length_append]
  omega
/-! ### a method called in a try: what is raised is told with the slots as they stand -/
def tMethS (C : Addr) (mv : Str) (sp : Sp) (E : L2.St → XK) (ta : TE) (t : TA) : TE := fun sg Hx Q =>
  ta sg Hx fun x Hx1 => ∃ a dx fs, x = .ref a ∧ Hx1 a = some (.ins C dx fs) ∧ fs.lookup mv = none ∧ t sg Hx1 fun vsv Hx2 => sp (x :: vsv) Hx2 Q (E sg)
theorem pe_methT {CX : CXT} {kv : Nat} {f C : Addr} {fd : FuncData} {ps : List Str} {sp : Sp} {E : L2.St → XK} {mv : Str} {pos apos : Pos} {ev ov : Expr} {esv : List Expr} {ta : TE} {t : TA} {pl : Sem Bool} (he : PE X ov ta) (cv : Cls X.K C) (hmv : Meth X.K C mv f)
    (F : FnOk X.prog X.w X.K X.mg X.base CX kv f fd ps sp) (hr : Room kv X.A) (hbv : Binds X.K fd ps []) (hxv : ∀ sg, PassesAt CX X sg (E sg)) (ha : PA X (ev :: esv) t)
    (qv1 : starEach (ev :: esv) X.env = (false, eval ev X.env) :: starEach esv X.env := by rfl) (qv2 : (backTo pos (starEach esv X.env)).any (·.1) = false := by rfl)
    (qv3 : eval (.Call (.Attribute ov mv apos) (ev :: esv) [] pos) X.env = (do
      let ov ← eval ov X.env; standAt apos.atName; let (f, first) ← holding [ov] (getMethod ov mv pl)
      callWith pos f first (backTo pos (starEach (ev :: esv) X.env)) (backToKw pos (keywordEach [] X.env))) := by rfl) :
    PE X (.Call (.Attribute ov mv apos) (ev :: esv) [] pos) (tMethS C mv sp E ta t) := by
  constructor
  intro pz s sg Hx Q Iw h
  refine PySem.W.methodCall_KW (pl := pl) (thn (he.run pz s sg Hx _ Iw h) fun uv sh1 zv => ?_) qv3
  obtain ⟨x, Hx1, Iw1, rxv, a, dx, fs, ex, ea, lv, qv⟩ := zv
  subst ex
  have eu : uv = Value.ref a := rxv
  subst eu
  refine getmeth_ok Iw1 ea cv hmv lv (PySem.W.callWith_K (first := [.ref a]) (h₀ := X.base) Iw.ok.mod.kin hmv.kp (thn (ha.run pos pz sh1 sg Hx1 _ Iw1 qv) fun usv sh2 zv => ?_) qv1 qv2)
  obtain ⟨vsv, Hx2, Iw2, r, z2⟩ := zv
  exact ⟨Iw2.kIn, run_fnS (us := .ref a :: usv) (vs := .ref a :: vsv) F hr hbv (hxv sg) Iw2 (.cons rfl r) z2⟩
end
end FhR

set_option Elab.async false
set_option linter.all false
set_option maxRecDepth 100000
set_option maxHeartbeats 4000000
namespace Fh
open PySem PySem.Spec L2 FhR
open Fm (Th Hs StD Wd Er)
/-! ### data that never change: tuples -/
abbrev TS (H H' : Hp) : Prop := ∀ b xs, H b = some (.tup xs) → H' b = some (.tup xs)
mutual
inductive DV (H : Hp) : V → PyData → Prop
  | non : DV H .non .none
  | bl (b : Bool) : DV H (.bl b) (.bool b)
  | int (i : Int) : DV H (.int i) (.int i)
  | str (x : Str) : DV H (.str x) (.str x)
  | tup {a : Addr} {xs : List V} {ds : List PyData} : H a = some (.tup xs) → DVs H xs ds → DV H (.ref a) (.tuple ds)
inductive DVs (H : Hp) : List V → List PyData → Prop
  | nil : DVs H [] []
  | cons {v : V} {vs : List V} {d : PyData} {ds : List PyData} : DV H v d → DVs H vs ds → DVs H (v :: vs) (d :: ds)
end
section
variable {H H' : Hp}
mutual
theorem DV.mono (t : TS H H') : ∀ {v : V} {d : PyData}, DV H v d → DV H' v d
  | _, _, .non => .non
  | _, _, .bl b => .bl b
  | _, _, .int i => .int i
  | _, _, .str x => .str x
  | _, _, .tup h r => .tup (t _ _ h) (DVs.mono t r)
theorem DVs.mono (t : TS H H') : ∀ {vs : List V} {ds : List PyData}, DVs H vs ds → DVs H' vs ds
  | _, _, .nil => .nil
  | _, _, .cons h r => .cons (DV.mono t h) (DVs.mono t r)
end
mutual
theorem DV.dp {K : PySem.W.Frag} : ∀ {v : V} {d : PyData}, DV H v d → Dp K H v d
  | _, _, .non => .non
  | _, _, .bl b => .bl b
  | _, _, .int i => .int i
  | _, _, .str x => .str x
  | _, _, .tup h r => .tup (SqT.of h) (DVs.dp r)
theorem DVs.dp {K : PySem.W.Frag} : ∀ {vs : List V} {ds : List PyData}, DVs H vs ds → DpAll K H vs ds
  | _, _, .nil => .nil
  | _, _, .cons h r => .cons (DV.dp h) (DVs.dp r)
end
theorem DVs.length : ∀ {vs : List V} {ds : List PyData}, DVs H vs ds → vs.length = ds.length
  | _, _, .nil => rfl
  | _, _, .cons _ r => congrArg (· + 1) (DVs.length r)
theorem DVs.get : ∀ {vs : List V} {ds : List PyData}, DVs H vs ds → ∀ {i : Nat} {v : V}, vs[i]? = some v → ∃ d, ds[i]? = some d ∧ DV H v d
  | _, _, .nil, i, v, e => by simp at e
  | _, _, .cons h r, 0, v, e => by
    have e' : _ = v := Option.some.inj e
    subst e'
    exact ⟨_, rfl, h⟩
  | _, _, .cons h r, i + 1, v, e => DVs.get r (i := i) e
theorem DVs.get' : ∀ {vs : List V} {ds : List PyData}, DVs H vs ds → ∀ {i : Nat} {d : PyData}, ds[i]? = some d → ∃ v, vs[i]? = some v ∧ DV H v d
  | _, _, .nil, i, v, e => by simp at e
  | _, _, .cons h r, 0, v, e => by
    have e' : _ = v := Option.some.inj e
    subst e'
    exact ⟨_, rfl, h⟩
  | _, _, .cons h r, i + 1, v, e => DVs.get' r (i := i) e
theorem DVs.snoc : ∀ {vs : List V} {ds : List PyData} {v : V} {d : PyData}, DVs H vs ds → DV H v d → DVs H (vs ++ [v]) (ds ++ [d])
  | _, _, _, _, .nil, h => .cons h .nil
  | _, _, _, _, .cons a r, h => .cons a (DVs.snoc r h)
theorem DVs.append : ∀ {vs ws : List V} {ds es : List PyData}, DVs H vs ds → DVs H ws es → DVs H (vs ++ ws) (ds ++ es)
  | _, _, _, _, .nil, h => h
  | _, _, _, _, .cons a r, h => .cons a (DVs.append r h)
end
/-- a thing as data -/
def dTh (t : Th) : PyData := .tuple [.int t.1, .int t.2]
def dThs (ts : List Th) : PyData := .tuple (ts.map dTh)
def dEnt (e : Th × Int × List Th) : PyData := .tuple [dTh e.1, .int e.2.1, dThs e.2.2]
def dRec (e : Th × Int) : PyData := .tuple [dTh e.1, .int e.2]
def dSt (s : StD) : PyData := .tuple [dThs s.hand, .tuple (s.things.map dEnt), .tuple (s.recs.map dRec)]
theorem DV.th {H : Hp} {v : V} {t : Th} (h : DV H v (dTh t)) : ∃ b, v = .ref b ∧ H b = some (.tup [.int t.1, .int t.2]) := by
  unfold dTh at h
  cases h with
  | tup e r =>
    cases r with
    | cons h1 r => cases r with
      | cons h2 r =>
        cases r
        cases h1
        cases h2
        exact ⟨_, rfl, e⟩
theorem DV.mkTh {H : Hp} {b : Addr} {t : Th} (h : H b = some (.tup [.int t.1, .int t.2])) : DV H (.ref b) (dTh t) := .tup h (.cons (.int _) (.cons (.int _) .nil))
theorem DVs.th {H : Hp} : ∀ {vs : List V} {ts : List Th}, DVs H vs (ts.map dTh) → ∃ bs : List Addr, vs = bs.map V.ref ∧ Paired (fun b t => H b = some (.tup [.int t.1, .int t.2])) bs ts
  | [], [], _ => ⟨[], rfl, .nil⟩
  | _ :: _, _ :: _, .cons h r => by
    obtain ⟨b, rfl, hb⟩ := h.th
    obtain ⟨bs, rfl, p⟩ := DVs.th r
    exact ⟨b :: bs, rfl, .cons hb p⟩
  | [], _ :: _, h => by cases h
  | _ :: _, [], h => by cases h
/-! ### who may be changed: labels -/
inductive Part where
  | ms | po | hs (i : Int) | iq (i : Nat)
  deriving DecidableEq
abbrev Lab := Nat × Part
abbrev Ow := Addr → Option Lab
def Clean (H : Hp) (ow : Ow) : Prop := ∀ b, H b = none → ow b = none
structure Frm (P : Lab → Prop) (H : Hp) (ow : Ow) (H' : Hp) (ow' : Ow) : Prop where
  keep : ∀ b o, H b = some o → (∀ l, ow b = some l → ¬ P l) → H' b = some o
  tup : TS H H'
  own : ∀ b o, H b = some o → ow' b = ow b
  all : ∀ b o, H b = some o → ∃ o', H' b = some o'
  cl : Clean H ow → Clean H' ow'
def setO (ow : Ow) (p : Addr) (l : Lab) : Ow := fun b => if b = p then some l else ow b
section
variable {P Q : Lab → Prop} {H H1 H2 : Hp} {ow ow1 ow2 : Ow} {a p : Addr} {o : HO} {l : Lab}
theorem Frm.refl : Frm P H ow H ow := ⟨fun _ _ e _ => e, fun _ _ e => e, fun _ _ _ => rfl, fun b o e => ⟨o, e⟩, fun c => c⟩
theorem Frm.trans (f : Frm P H ow H1 ow1) (g : Frm P H1 ow1 H2 ow2) : Frm P H ow H2 ow2 where
  keep b o e n := g.keep b o (f.keep b o e n) fun l h => n l (by rw [← f.own b o e]; exact h)
  tup b xs e := g.tup b xs (f.tup b xs e)
  own b o e := by
    obtain ⟨o', e'⟩ := f.all b o e
    rw [g.own b o' e', f.own b o e]
  all b o e := by
    obtain ⟨o', e'⟩ := f.all b o e
    exact g.all b o' e'
  cl c := g.cl (f.cl c)
theorem Frm.mono (f : Frm P H ow H1 ow1) (h : ∀ l, P l → Q l) : Frm Q H ow H1 ow1 :=
  ⟨fun b o e n => f.keep b o e fun l hl hp => n l hl (h l hp), f.tup, f.own, f.all, f.cl⟩
/-- what is changed is new since H, or bears the label -/
theorem Frm.put (f : Frm P H ow H1 ow1) (h : H a = none ∨ (∃ o, H a = some o ∧ (∀ xs, o ≠ .tup xs) ∧ ∃ l, ow a = some l ∧ P l)) (h1 : (H1 a).isSome = true ∨ ow1 a = none ∨ True) : Frm P H ow (upd H1 a o) ow1 where
  keep b u e n := by
    have hb : b ≠ a := by
      rintro rfl
      rcases h with z | ⟨o, _, _, l, hl, hp⟩
      · rw [e] at z
        cases z
      · exact n l hl hp
    rw [upd_ne hb]
    exact f.keep b u e n
  tup b xs e := by
    have hb : b ≠ a := by
      rintro rfl
      rcases h with z | ⟨o, ho, nt, _⟩
      · rw [e] at z
        cases z
      · rw [ho] at e
        exact nt xs (Option.some.inj e)
    rw [upd_ne hb]
    exact f.tup b xs e
  own := f.own
  all b u e := by
    by_cases hb : b = a
    · exact ⟨o, by rw [hb]; exact upd_same⟩
    · rw [upd_ne hb]
      exact f.all b u e
  cl c b e := by
    by_cases hb : b = a
    · rw [hb, upd_same] at e
      cases e
    · rw [upd_ne hb] at e
      exact f.cl c b e
/-- a new object -/
theorem Frm.new (f : Frm P H ow H1 ow1) (n : H1 p = none) : Frm P H ow (upd H1 p o) ow1 :=
  f.put (.inl (by
    cases e : H p with
    | none => rfl
    | some u =>
      obtain ⟨o', e'⟩ := f.all p u e
      rw [n] at e'
      cases e')) (.inr (.inr True.intro))
/-- a new object gets its label -/
theorem Frm.label (f : Frm P H ow H1 ow1) (n : H p = none) (s : ∃ o, H1 p = some o) : Frm P H ow H1 (setO ow1 p l) where
  keep := f.keep
  tup := f.tup
  own b o e := by
    have hb : b ≠ p := fun z => by
      rw [z, n] at e
      cases e
    unfold setO
    rw [if_neg hb]
    exact f.own b o e
  all := f.all
  cl c b e := by
    have hb : b ≠ p := fun z => by
      obtain ⟨o, h⟩ := s
      rw [z, h] at e
      cases e
    unfold setO
    rw [if_neg hb]
    exact f.cl c b e
theorem Frm.none_back (f : Frm P H ow H1 ow1) (n : H1 p = none) : H p = none := by
  cases e : H p with
  | none => rfl
  | some u =>
    obtain ⟨o', e'⟩ := f.all p u e
    rw [n] at e'
    cases e'
/-- an object that bears no label, or another one, stands -/
theorem Frm.at (f : Frm P H ow H1 ow1) (e : H a = some o) (h : ow a = none ∨ ∃ l, ow a = some l ∧ ¬ P l) : H1 a = some o ∧ ow1 a = ow a := by
  refine ⟨f.keep a o e fun l hl => ?_, f.own a o e⟩
  rcases h with z | ⟨l', z, n⟩
  · rw [z] at hl
    cases hl
  · rw [z] at hl
    cases hl
    exact n
theorem Frm.of_same (h : Same H H1) (c : Clean H ow) : Frm P H ow H1 ow :=
  ⟨fun b o e _ => h b o e, fun b xs e => h b _ e, fun _ _ _ => rfl, fun b o e => ⟨o, h b o e⟩, fun _ b e => c b (h.free e)⟩
theorem setO_same {ow : Ow} {p : Addr} {l : Lab} : setO ow p l p = some l := if_pos rfl
theorem setO_ne {ow : Ow} {p b : Addr} {l : Lab} (h : b ≠ p) : setO ow p l b = ow b := if_neg h
end
/-! ### dicts -/
section
variable {κ β : Type} [DecidableEq κ] {κ' : Type} [DecidableEq κ'] {f : κ → κ'} {g : β → V}
def emb (f : κ → κ') (g : β → V) (d : List (κ × β)) : List (κ' × V) := d.map fun e => (f e.1, g e.2)
theorem emb_get (hf : ∀ a b, f a = f b → a = b) (d : List (κ × β)) (k : κ) : valV (emb f g d) (f k) = (Fm.dget d k).map g := by
  induction d with
  | nil => rfl
  | cons e r ih =>
    rw [Fm.dget_cons]
    by_cases h : e.1 = k
    · rw [if_pos h]
      exact valV_pos (p := (f e.1, g e.2)) (by rw [h])
    · rw [if_neg h, ← ih]
      exact valV_neg (p := (f e.1, g e.2)) fun z => h (hf _ _ z)
theorem emb_put (hf : ∀ a b, f a = f b → a = b) (d : List (κ × β)) (k : κ) (v : β) : putK (emb f g d) (f k) (g v) = emb f g (Fm.dput d k v) := by
  have ha : ((emb f g d).any fun kv => decide (kv.1 = f k)) = d.any fun e => decide (e.1 = k) := by
    unfold emb
    rw [List.any_map]
    congr 1
    funext e
    exact decide_eq_decide.mpr ⟨hf _ _, fun h => by show f e.1 = f k; rw [h]⟩
  unfold putK Fm.dput
  rw [ha]
  split
  · unfold emb
    rw [List.map_map, List.map_map]
    apply List.map_congr_left
    intro e _
    show (if f e.1 = f k then (f e.1, g v) else (f e.1, g e.2)) = (f (if e.1 = k then (e.1, v) else e).1, g (if e.1 = k then (e.1, v) else e).2)
    by_cases h : e.1 = k
    · rw [if_pos h, if_pos (by rw [h])]
    · rw [if_neg h, if_neg fun z => h (hf _ _ z)]
  · unfold emb
    rw [List.map_append]
    rfl
theorem emb_drop (hf : ∀ a b, f a = f b → a = b) (d : List (κ × β)) (k : κ) : dropK (emb f g d) (f k) = emb f g (Fm.ddrop d k) := by
  unfold dropK Fm.ddrop emb
  rw [List.filter_map]
  congr 1
  apply List.filter_congr
  intro e _
  exact decide_eq_decide.mpr (not_congr ⟨hf _ _, fun h => by show f e.1 = f k; rw [h]⟩)
theorem emb_length (d : List (κ × β)) : (emb f g d).length = d.length := List.length_map ..
theorem emb_keys (d : List (κ × β)) : (emb f g d).map (·.1) = (Fm.keys d).map f := by
  unfold emb Fm.keys
  rw [List.map_map, List.map_map]
  rfl
end
theorem kPi (a b : Th) (h : kP a = kP b) : a = b := kP_inj h
theorem inli (a b : Int) (h : (Sum.inl a : Key) = Sum.inl b) : a = b := Sum.inl.inj h
abbrev eI (d : List (Int × Int)) : List (Key × V) := emb Sum.inl V.int d
abbrev eT (d : List (Th × Int)) : List (List Key × V) := emb kP V.int d
/-- a hand: a dict to True -/
def hE (l : List Th) : List (List Key × V) := l.map fun t => (kP t, V.bl true)
theorem hE_keys (l : List Th) : (hE l).map (·.1) = l.map kP := by
  unfold hE
  rw [List.map_map]
  rfl
theorem hE_length (l : List Th) : (hE l).length = l.length := List.length_map ..
theorem hE_get (l : List Th) (t : Th) : valV (hE l) (kP t) = if t ∈ l then some (.bl true) else none := by
  induction l with
  | nil => rfl
  | cons a r ih =>
    by_cases h : a = t
    · rw [if_pos (by rw [h]; exact List.mem_cons_self)]
      exact valV_pos (p := (kP a, V.bl true)) (by rw [h])
    · have e : valV (hE (a :: r)) (kP t) = valV (hE r) (kP t) := valV_neg (p := (kP a, V.bl true)) fun z => h (kPi _ _ z)
      rw [e, ih]
      by_cases q : t ∈ r
      · rw [if_pos q, if_pos (List.mem_cons_of_mem _ q)]
      · rw [if_neg q, if_neg (by simp [q, Ne.symm h])]
theorem hE_put (l : List Th) (t : Th) : putK (hE l) (kP t) (.bl true) = hE (Fm.hput l t) := by
  have hm : (((hE l).any fun kv => decide (kv.1 = kP t)) = true) ↔ t ∈ l := by
    rw [valV_any, hE_get]
    by_cases h : t ∈ l <;> simp [h]
  unfold putK Fm.hput
  by_cases h : t ∈ l
  · rw [if_pos (hm.mpr h), if_pos h]
    unfold hE
    rw [List.map_map]
    apply List.map_congr_left
    intro e _
    show (if kP e = kP t then (kP e, V.bl true) else (kP e, V.bl true)) = _
    split <;> rfl
  · rw [if_neg fun z => h (hm.mp z), if_neg h]
    unfold hE
    rw [List.map_append]
    rfl
theorem hE_drop (l : List Th) (t : Th) : dropK (hE l) (kP t) = hE (Fm.hdrop l t) := by
  unfold dropK Fm.hdrop hE
  rw [List.filter_map]
  congr 1
  apply List.filter_congr
  intro e _
  exact decide_eq_decide.mpr (not_congr ⟨kPi _ _, fun h => by show kP e = kP t; rw [h]⟩)
end Fh

set_option Elab.async false
set_option linter.all false
set_option maxRecDepth 100000
set_option maxHeartbeats 4000000
namespace Fh
open PySem PySem.Spec L2 FhR
open Fm (Th Hs StD Wd Er HG HB)
/-! ### a house's object -/
def hf (i m t : Int) (hd hg ho hr : Addr) : List (Str × V) := [("number", .int i), ("made", .int m), ("ticks", .int t), ("hand", .ref hd), ("holding", .ref hg), ("outs", .ref ho), ("records", .ref hr)]
section
variable {i m t n : Int} {hd hg ho hr : Addr}
theorem hf_number : (hf i m t hd hg ho hr).lookup ("number" : Str) = some (V.int i) := by kernel_rfl
theorem hf_made : (hf i m t hd hg ho hr).lookup ("made" : Str) = some (V.int m) := by kernel_rfl
theorem hf_ticks : (hf i m t hd hg ho hr).lookup ("ticks" : Str) = some (V.int t) := by kernel_rfl
theorem hf_hand : (hf i m t hd hg ho hr).lookup ("hand" : Str) = some (V.ref hd) := by kernel_rfl
theorem hf_holding : (hf i m t hd hg ho hr).lookup ("holding" : Str) = some (V.ref hg) := by kernel_rfl
theorem hf_outs : (hf i m t hd hg ho hr).lookup ("outs" : Str) = some (V.ref ho) := by kernel_rfl
theorem hf_records : (hf i m t hd hg ho hr).lookup ("records" : Str) = some (V.ref hr) := by kernel_rfl
theorem hf_set_made : putF "made" (.int n) (hf i m t hd hg ho hr) = hf i n t hd hg ho hr := by kernel_rfl
theorem hf_set_ticks : putF "ticks" (.int n) (hf i m t hd hg ho hr) = hf i m n hd hg ho hr := by kernel_rfl
theorem hf_need : (hf i m t hd hg ho hr).lookup ("need" : Str) = none := by kernel_rfl
theorem hf_held_by : (hf i m t hd hg ho hr).lookup ("held_by" : Str) = none := by kernel_rfl
theorem hf_given : (hf i m t hd hg ho hr).lookup ("given" : Str) = none := by kernel_rfl
theorem hf_added : (hf i m t hd hg ho hr).lookup ("added" : Str) = none := by kernel_rfl
theorem hf_gone : (hf i m t hd hg ho hr).lookup ("gone" : Str) = none := by kernel_rfl
theorem hf_given_back : (hf i m t hd hg ho hr).lookup ("given_back" : Str) = none := by kernel_rfl
theorem hf_len : (hf i m t hd hg ho hr).length < 1000 := by show 7 < 1000; decide
end
/-- where a house's parts stand -/
structure HAd where
  dx : Addr
  hd : Addr
  hg : Addr
  ho : Addr
  hr : Addr
  ia : List (Int × Addr)
abbrev eA (ia : List (Int × Addr)) : List (Key × V) := emb Sum.inl V.ref ia
structure HIs (C : Addr) (l : Lab) (H : Hp) (ow : Ow) (a : Addr) (i : Int) (S : Hs) (x : HAd) : Prop where
  ob : H a = some (.ins C x.dx (hf i S.made S.ticks x.hd x.hg x.ho x.hr))
  hd : H x.hd = some (.dT (hE S.hand))
  hg : H x.hg = some (.dK (eA x.ia))
  ho : H x.ho = some (.dK (eI S.outs))
  hr : H x.hr = some (.dT (eT S.recs))
  inn : Paired (fun (p : Int × Addr) (q : Int × List Th) => p.1 = q.1 ∧ H p.2 = some (.dT (hE q.2)) ∧ ow p.2 = some l) x.ia S.holding
  la : ow a = some l
  ld : ow x.hd = some l
  lg : ow x.hg = some l
  lo : ow x.ho = some l
  lr : ow x.hr = some l
  n1 : x.hd ≠ x.hr
  n2 : x.hg ≠ x.ho
  n3 : ∀ p ∈ x.ia, p.2 ≠ x.hd ∧ p.2 ≠ x.hr
  n4 : (x.ia.map (·.2)).Nodup
def HAt (C : Addr) (l : Lab) (H : Hp) (ow : Ow) (a : Addr) (i : Int) (S : Hs) : Prop := ∃ x, HIs C l H ow a i S x
section
variable {C a p : Addr} {l : Lab} {H H' : Hp} {ow ow' : Ow} {i : Int} {S : Hs} {x : HAd} {o : HO}
theorem paired_imp {α β : Type} {F G : α → β → Prop} : ∀ {xs : List α} {ys : List β}, Paired F xs ys → (∀ a ∈ xs, ∀ b ∈ ys, F a b → G a b) → Paired G xs ys
  | _, _, .nil, _ => .nil
  | _, _, .cons h r, k => .cons (k _ List.mem_cons_self _ List.mem_cons_self h) (paired_imp r fun a ha b hb => k a (List.mem_cons_of_mem _ ha) b (List.mem_cons_of_mem _ hb))
/-- what a house stands on is not touched -/
theorem HIs.stay (h : HIs C l H ow a i S x) (k : ∀ b o, H b = some o → ow b = some l → H' b = some o ∧ ow' b = ow b) : HIs C l H' ow' a i S x where
  ob := (k _ _ h.ob h.la).1
  hd := (k _ _ h.hd h.ld).1
  hg := (k _ _ h.hg h.lg).1
  ho := (k _ _ h.ho h.lo).1
  hr := (k _ _ h.hr h.lr).1
  inn := paired_imp h.inn fun p _ q _ z => ⟨z.1, (k _ _ z.2.1 z.2.2).1, by rw [(k _ _ z.2.1 z.2.2).2]; exact z.2.2⟩
  la := by rw [(k _ _ h.ob h.la).2]; exact h.la
  ld := by rw [(k _ _ h.hd h.ld).2]; exact h.ld
  lg := by rw [(k _ _ h.hg h.lg).2]; exact h.lg
  lo := by rw [(k _ _ h.ho h.lo).2]; exact h.lo
  lr := by rw [(k _ _ h.hr h.lr).2]; exact h.lr
  n1 := h.n1
  n2 := h.n2
  n3 := h.n3
  n4 := h.n4
theorem HIs.frm {P : Lab → Prop} (h : HIs C l H ow a i S x) (f : Frm P H ow H' ow') (n : ¬ P l) : HIs C l H' ow' a i S x :=
  h.stay fun b o e hl => f.at e (.inr ⟨l, hl, n⟩)
/-- a new object beside -/
theorem HIs.new (h : HIs C l H ow a i S x) (n : H p = none) : HIs C l (upd H p o) ow a i S x :=
  h.stay fun b u e _ => ⟨by rw [upd_ne (ne_of_none e n)]; exact e, rfl⟩
/-- a change of an object that is not this house's -/
theorem HIs.other (h : HIs C l H ow a i S x) (n : ow p = none) : HIs C l (upd H p o) ow a i S x :=
  h.stay fun b u e hl => ⟨by rw [upd_ne (fun z => by rw [z, n] at hl; cases hl)]; exact e, rfl⟩
theorem paired_app {α β : Type} {F : α → β → Prop} : ∀ {xs : List α} {ys : List β} {us : List α} {ws : List β}, Paired F xs ys → Paired F us ws → Paired F (xs ++ us) (ys ++ ws)
  | _, _, _, _, .nil, h => h
  | _, _, _, _, .cons a r, h => .cons a (paired_app r h)
theorem HIs.inner (h : HIs C l H ow a i S x) : ∀ p ∈ x.ia, ∃ q ∈ S.holding, p.1 = q.1 ∧ H p.2 = some (.dT (hE q.2)) ∧ ow p.2 = some l := by
  have z := h.inn
  have k : ∀ {ia : List (Int × Addr)} {hs : List (Int × List Th)}, Paired (fun (p : Int × Addr) (q : Int × List Th) => p.1 = q.1 ∧ H p.2 = some (.dT (hE q.2)) ∧ ow p.2 = some l) ia hs → ∀ p ∈ ia, ∃ q ∈ hs, p.1 = q.1 ∧ H p.2 = some (.dT (hE q.2)) ∧ ow p.2 = some l := by
    intro ia hs hp
    induction hp with
    | nil => intro p hp; cases hp
    | cons h0 _ ih =>
      intro p hp
      rcases List.mem_cons.mp hp with rfl | hp
      · exact ⟨_, List.mem_cons_self, h0⟩
      · obtain ⟨q, hq, r⟩ := ih p hp
        exact ⟨q, List.mem_cons_of_mem _ hq, r⟩
  exact k z
theorem HIs.ob' (h : HIs C l H ow a i S x) (m t : Int) : HIs C l (upd H a (.ins C x.dx (hf i m t x.hd x.hg x.ho x.hr))) ow a i { S with made := m, ticks := t } x where
  ob := upd_same
  hd := by rw [upd_ne (ne_of h.hd h.ob (by intro z; cases z))]; exact h.hd
  hg := by rw [upd_ne (ne_of h.hg h.ob (by intro z; cases z))]; exact h.hg
  ho := by rw [upd_ne (ne_of h.ho h.ob (by intro z; cases z))]; exact h.ho
  hr := by rw [upd_ne (ne_of h.hr h.ob (by intro z; cases z))]; exact h.hr
  inn := paired_imp h.inn fun p _ q _ z => ⟨z.1, by rw [upd_ne (ne_of z.2.1 h.ob (by intro z; cases z))]; exact z.2.1, z.2.2⟩
  la := h.la
  ld := h.ld
  lg := h.lg
  lo := h.lo
  lr := h.lr
  n1 := h.n1
  n2 := h.n2
  n3 := h.n3
  n4 := h.n4
theorem HIs.hd' (h : HIs C l H ow a i S x) (ts : List Th) : HIs C l (upd H x.hd (.dT (hE ts))) ow a i { S with hand := ts } x where
  ob := by rw [upd_ne (ne_of h.ob h.hd (by intro z; cases z))]; exact h.ob
  hd := upd_same
  hg := by rw [upd_ne (ne_of h.hg h.hd (by intro z; cases z))]; exact h.hg
  ho := by rw [upd_ne (ne_of h.ho h.hd (by intro z; cases z))]; exact h.ho
  hr := by rw [upd_ne h.n1.symm]; exact h.hr
  inn := paired_imp h.inn fun p hp q _ z => ⟨z.1, by rw [upd_ne (h.n3 p hp).1]; exact z.2.1, z.2.2⟩
  la := h.la
  ld := h.ld
  lg := h.lg
  lo := h.lo
  lr := h.lr
  n1 := h.n1
  n2 := h.n2
  n3 := h.n3
  n4 := h.n4
theorem HIs.hr' (h : HIs C l H ow a i S x) (d : List (Th × Int)) : HIs C l (upd H x.hr (.dT (eT d))) ow a i { S with recs := d } x where
  ob := by rw [upd_ne (ne_of h.ob h.hr (by intro z; cases z))]; exact h.ob
  hd := by rw [upd_ne h.n1]; exact h.hd
  hg := by rw [upd_ne (ne_of h.hg h.hr (by intro z; cases z))]; exact h.hg
  ho := by rw [upd_ne (ne_of h.ho h.hr (by intro z; cases z))]; exact h.ho
  hr := upd_same
  inn := paired_imp h.inn fun p hp q _ z => ⟨z.1, by rw [upd_ne (h.n3 p hp).2]; exact z.2.1, z.2.2⟩
  la := h.la
  ld := h.ld
  lg := h.lg
  lo := h.lo
  lr := h.lr
  n1 := h.n1
  n2 := h.n2
  n3 := h.n3
  n4 := h.n4
theorem HIs.ho' (h : HIs C l H ow a i S x) (d : List (Int × Int)) : HIs C l (upd H x.ho (.dK (eI d))) ow a i { S with outs := d } x where
  ob := by rw [upd_ne (ne_of h.ob h.ho (by intro z; cases z))]; exact h.ob
  hd := by rw [upd_ne (ne_of h.hd h.ho (by intro z; cases z))]; exact h.hd
  hg := by rw [upd_ne h.n2]; exact h.hg
  ho := upd_same
  hr := by rw [upd_ne (ne_of h.hr h.ho (by intro z; cases z))]; exact h.hr
  inn := paired_imp h.inn fun p hp q _ z => ⟨z.1, by rw [upd_ne (ne_of z.2.1 h.ho (by intro z; cases z))]; exact z.2.1, z.2.2⟩
  la := h.la
  ld := h.ld
  lg := h.lg
  lo := h.lo
  lr := h.lr
  n1 := h.n1
  n2 := h.n2
  n3 := h.n3
  n4 := h.n4
/-- the dict of what a thing holds, by its number -/
theorem HIs.at_ (h : HIs C l H ow a i S x) {n : Int} {ts : List Th} (e : Fm.dget S.holding n = some ts) : ∃ p, Fm.dget x.ia n = some p ∧ H p = some (.dT (hE ts)) ∧ ow p = some l := by
  have k : ∀ {ia : List (Int × Addr)} {hs : List (Int × List Th)}, Paired (fun (p : Int × Addr) (q : Int × List Th) => p.1 = q.1 ∧ H p.2 = some (.dT (hE q.2)) ∧ ow p.2 = some l) ia hs → Fm.dget hs n = some ts → ∃ p, Fm.dget ia n = some p ∧ H p = some (.dT (hE ts)) ∧ ow p = some l := by
    intro ia hs hp
    induction hp with
    | nil => intro e; cases e
    | cons h0 _ ih =>
      intro e
      rw [Fm.dget_cons] at e ⊢
      rw [h0.1]
      split at e
      · rename_i q
        cases e
        exact ⟨_, if_pos q, h0.2⟩
      · rename_i q
        rw [if_neg q]
        exact ih e
  exact k h.inn e
theorem HIs.none_ (h : HIs C l H ow a i S x) {n : Int} (e : Fm.dget S.holding n = none) : Fm.dget x.ia n = none := by
  have k : ∀ {ia : List (Int × Addr)} {hs : List (Int × List Th)}, Paired (fun (p : Int × Addr) (q : Int × List Th) => p.1 = q.1 ∧ H p.2 = some (.dT (hE q.2)) ∧ ow p.2 = some l) ia hs → Fm.dget hs n = none → Fm.dget ia n = none := by
    intro ia hs hp
    induction hp with
    | nil => intro _; rfl
    | cons h0 _ ih =>
      intro e
      rw [Fm.dget_cons] at e ⊢
      rw [h0.1]
      split at e
      · cases e
      · rename_i q
        rw [if_neg q]
        exact ih e
  exact k h.inn e
theorem nodup_dget {ia : List (Int × Addr)} (hk : (Fm.keys ia).Nodup) (hn : (ia.map (·.2)).Nodup) {n m : Int} {p : Addr} (h1 : Fm.dget ia n = some p) (h2 : (m, p) ∈ ia) : m = n := by
  induction ia with
  | nil => cases h1
  | cons e r ih =>
    obtain ⟨a1, a2⟩ := List.nodup_cons.mp (show (e.2 :: r.map (·.2)).Nodup from hn)
    obtain ⟨b1, b2⟩ := List.nodup_cons.mp (show (e.1 :: Fm.keys r).Nodup from hk)
    rw [Fm.dget_cons] at h1
    rcases List.mem_cons.mp h2 with q | q
    · split at h1
      · rename_i z
        rw [← z, ← q]
      · cases q
        exact absurd (List.mem_map.mpr ⟨_, Fm.dget_mem h1, rfl⟩) a1
    · split at h1
      · cases h1
        exact absurd (List.mem_map.mpr ⟨_, q, rfl⟩) a1
      · exact ih b2 a2 h1 q
/-- a thing's holds are changed -/
theorem HIs.in' (h : HIs C l H ow a i S x) (hk : (Fm.keys S.holding).Nodup) {n : Int} {p : Addr} (e : Fm.dget x.ia n = some p) (f : List Th → List Th) {ts : List Th} (ets : Fm.dget S.holding n = some ts) :
    HIs C l (upd H p (.dT (hE (f ts)))) ow a i { S with holding := Fm.dmod S.holding n f } x := by
  obtain ⟨p', e', hp, _⟩ := h.at_ ets
  have ep : p' = p := Option.some.inj (e'.symm.trans e)
  subst ep
  have hm : (n, p') ∈ x.ia := Fm.dget_mem e
  have hkia : (Fm.keys x.ia).Nodup := by
    have k : ∀ {ia : List (Int × Addr)} {hs : List (Int × List Th)}, Paired (fun (p : Int × Addr) (q : Int × List Th) => p.1 = q.1 ∧ H p.2 = some (.dT (hE q.2)) ∧ ow p.2 = some l) ia hs → Fm.keys ia = Fm.keys hs := by
      intro ia hs hp
      induction hp with
      | nil => rfl
      | cons h0 _ ih =>
        unfold Fm.keys at ih ⊢
        rw [List.map_cons, List.map_cons, ih, h0.1]
    rw [k h.inn]
    exact hk
  refine ⟨?_, ?_, ?_, ?_, ?_, ?_, h.la, h.ld, h.lg, h.lo, h.lr, h.n1, h.n2, h.n3, h.n4⟩
  · rw [upd_ne (ne_of h.ob hp (by intro z; cases z))]; exact h.ob
  · rw [upd_ne (h.n3 _ hm).1.symm]; exact h.hd
  · rw [upd_ne (ne_of h.hg hp (by intro z; cases z))]; exact h.hg
  · rw [upd_ne (ne_of h.ho hp (by intro z; cases z))]; exact h.ho
  · rw [upd_ne (h.n3 _ hm).2.symm]; exact h.hr
  · have k : ∀ {ia : List (Int × Addr)} {hs : List (Int × List Th)}, Paired (fun (p : Int × Addr) (q : Int × List Th) => p.1 = q.1 ∧ H p.2 = some (.dT (hE q.2)) ∧ ow p.2 = some l) ia hs → (∀ q ∈ ia, q.2 = p' → q.1 = n) → (∀ q ∈ hs, q.1 = n → q.2 = ts) → (∀ q ∈ ia, q.1 = n → q.2 = p') →
        Paired (fun (p : Int × Addr) (q : Int × List Th) => p.1 = q.1 ∧ upd H p' (.dT (hE (f ts))) p.2 = some (.dT (hE q.2)) ∧ ow p.2 = some l) ia (Fm.dmod hs n f) := by
      intro ia hs hp
      induction hp with
      | nil => intro _ _ _; exact .nil
      | @cons p0 q0 ps qs h0 _ ih =>
        intro k1 k2 k3
        refine .cons ?_ (ih (fun q hq => k1 q (List.mem_cons_of_mem _ hq)) (fun q hq => k2 q (List.mem_cons_of_mem _ hq)) fun q hq => k3 q (List.mem_cons_of_mem _ hq))
        dsimp only
        by_cases z : q0.1 = n
        · rw [if_pos z]
          have e1 : p0.2 = p' := k3 p0 List.mem_cons_self (h0.1.trans z)
          exact ⟨h0.1, by rw [e1, upd_same, k2 q0 List.mem_cons_self z], h0.2.2⟩
        · rw [if_neg z]
          have e1 : p0.2 ≠ p' := fun y => z (h0.1.symm.trans (k1 p0 List.mem_cons_self y))
          exact ⟨h0.1, by rw [upd_ne e1]; exact h0.2.1, h0.2.2⟩
    refine k h.inn (fun q hq ez => nodup_dget hkia h.n4 e (by rw [← ez]; exact hq)) (fun q hq ez => ?_) fun q hq ez => ?_
    · have := Fm.dget_of_mem hk (k := q.1) (v := q.2) hq
      rw [ez, ets] at this
      exact (Option.some.inj this).symm
    · have := Fm.dget_of_mem hkia (k := q.1) (v := q.2) hq
      rw [ez, e] at this
      exact (Option.some.inj this).symm
/-- a new thing, which holds nothing -/
theorem HIs.add (h : HIs C l H ow a i S x) {n : Int} {p : Addr} (hn : n ∉ Fm.keys S.holding) (hp : H p = some (.dT [])) (np : ow p = none) :
    HIs C l (upd H x.hg (.dK (eA (x.ia ++ [(n, p)])))) (setO ow p l) a i { S with holding := S.holding ++ [(n, [])] } { x with ia := x.ia ++ [(n, p)] } := by
  have nl : ∀ b, ow b = some l → b ≠ p := fun b hb z => by rw [z, np] at hb; cases hb
  have so : ∀ b, ow b = some l → setO ow p l b = some l := fun b hb => by rw [setO_ne (nl b hb)]; exact hb
  refine ⟨?_, ?_, upd_same, ?_, ?_, ?_, so _ h.la, so _ h.ld, so _ h.lg, so _ h.lo, so _ h.lr, h.n1, h.n2, ?_, ?_⟩
  · rw [upd_ne (ne_of h.ob h.hg (by intro z; cases z))]; exact h.ob
  · rw [upd_ne (ne_of h.hd h.hg (by intro z; cases z))]; exact h.hd
  · rw [upd_ne h.n2.symm]; exact h.ho
  · rw [upd_ne (ne_of h.hr h.hg (by intro z; cases z))]; exact h.hr
  · refine paired_app (paired_imp h.inn fun p0 _ q _ z => ⟨z.1, by rw [upd_ne (ne_of z.2.1 h.hg (by intro z; cases z))]; exact z.2.1, so _ z.2.2⟩) (.cons ⟨rfl, ?_, setO_same⟩ .nil)
    show upd H x.hg _ p = some (.dT (hE []))
    rw [upd_ne (ne_of hp h.hg (by intro z; cases z))]
    exact hp
  · intro q hq
    rcases List.mem_append.mp hq with z | z
    · exact h.n3 q z
    · have e : q = (n, p) := by simpa using z
      rw [e]
      exact ⟨(nl _ h.ld).symm, (nl _ h.lr).symm⟩
  · rw [List.map_append, List.nodup_append]
    refine ⟨h.n4, by simp, fun b hb c hc => ?_⟩
    have e : c = p := by simpa using hc
    obtain ⟨q, hq, rfl⟩ := List.mem_map.mp hb
    obtain ⟨_, _, _, _, ho⟩ := h.inner q hq
    rw [e]
    exact nl _ ho
theorem HIs.keys (h : HIs C l H ow a i S x) : Fm.keys x.ia = Fm.keys S.holding := by
  have k : ∀ {ia : List (Int × Addr)} {hs : List (Int × List Th)}, Paired (fun (p : Int × Addr) (q : Int × List Th) => p.1 = q.1 ∧ H p.2 = some (.dT (hE q.2)) ∧ ow p.2 = some l) ia hs → Fm.keys ia = Fm.keys hs := by
    intro ia hs hp
    induction hp with
    | nil => rfl
    | cons h0 _ ih =>
      unfold Fm.keys at ih ⊢
      rw [List.map_cons, List.map_cons, ih, h0.1]
  exact k h.inn
/-- some things go -/
theorem HIs.cut (h : HIs C l H ow a i S x) (p_ : Int → Bool) : HIs C l (upd H x.hg (.dK (eA (x.ia.filter fun e => p_ e.1)))) ow a i { S with holding := S.holding.filter fun e => p_ e.1 } { x with ia := x.ia.filter fun e => p_ e.1 } := by
  refine ⟨?_, ?_, upd_same, ?_, ?_, ?_, h.la, h.ld, h.lg, h.lo, h.lr, h.n1, h.n2, ?_, ?_⟩
  · rw [upd_ne (ne_of h.ob h.hg (by intro z; cases z))]; exact h.ob
  · rw [upd_ne (ne_of h.hd h.hg (by intro z; cases z))]; exact h.hd
  · rw [upd_ne h.n2.symm]; exact h.ho
  · rw [upd_ne (ne_of h.hr h.hg (by intro z; cases z))]; exact h.hr
  · have k : ∀ {ia : List (Int × Addr)} {hs : List (Int × List Th)}, Paired (fun (p : Int × Addr) (q : Int × List Th) => p.1 = q.1 ∧ H p.2 = some (.dT (hE q.2)) ∧ ow p.2 = some l) ia hs →
        Paired (fun (p : Int × Addr) (q : Int × List Th) => p.1 = q.1 ∧ upd H x.hg (.dK (eA (x.ia.filter fun e => p_ e.1))) p.2 = some (.dT (hE q.2)) ∧ ow p.2 = some l) (ia.filter fun e => p_ e.1) (hs.filter fun e => p_ e.1) := by
      intro ia hs hp
      induction hp with
      | nil => exact .nil
      | cons h0 _ ih =>
        rw [List.filter_cons, List.filter_cons, h0.1]
        split
        · exact .cons ⟨h0.1, by rw [upd_ne (ne_of h0.2.1 h.hg (by intro z; cases z))]; exact h0.2.1, h0.2.2⟩ ih
        · exact ih
    exact k h.inn
  · intro q hq
    exact h.n3 q (List.mem_filter.mp hq).1
  · exact h.n4.sublist (List.filter_sublist.map _)
theorem Frm.lab {P : Lab → Prop} {H1 : Hp} {ow1 : Ow} {o' : HO} (f : Frm P H ow H1 ow1) (e : H a = some o) (nt : ∀ xs, o ≠ .tup xs) (la : ow a = some l) (pl : P l) : Frm P H ow (upd H1 a o') ow1 :=
  f.put (.inr ⟨o, e, nt, l, la, pl⟩) (.inr (.inr True.intro))
end
end Fh

set_option Elab.async false
set_option linter.all false
set_option maxRecDepth 100000
set_option maxHeartbeats 4000000
namespace Fh
open PySem PySem.Spec L2 FhR
open Fm (Th Hs StD Wd Er)
/-! ### defs of a house that change nothing -/
abbrev hC (K : PySem.W.Frag) : Addr := He.ga K "House"
def exn (K : PySem.W.Frag) : Er → Value
  | .noHouse => .ref (He.ga K "NoHouse") | .notHeld => .ref (He.ga K "NotHeld") | .notNear => .ref (He.ga K "NotNear") | .missing => .ref (He.ga K "Missing")
  | .noWeight => .ref (He.ga K "NoWeight") | .noLetter => .ref (He.ga K "NoLetter") | .noInquiry => .ref (He.ga K "NoInquiry") | .noRow => .ref (He.ga K "NoRow")
def spNeed (K : PySem.W.Frag) : Sp := fun vs H Q E => ∃ (l : Lab) (ow : Ow) (a : Addr) (i : Int) (S : Hs) (x : HAd) (v : V) (t : Th), vs = [.ref a, v] ∧ HIs (hC K) l H ow a i S x ∧ DV H v (dTh t) ∧
  (t ∈ S.hand → Q v H) ∧ (t ∉ S.hand → E (exn K .notHeld) none H)
section
variable {P : Program} {w : World} {K : PySem.W.Frag} {mg : Str → Option Value} {base : Heap}
theorem scNeed : FnScope ["self", "a"] ["self", "a"] (defScope sH_need) := ⟨rfl, rfl, rfl, by decide +kernel, rfl, by decide +kernel, by decide +kernel⟩
theorem ok_need (T : Tx K mg) : Ok P w K mg base 1 dH_need ["self", "a"] (spNeed K) := by
  refine Ok.mk T 5 rfl ⟨rfl, rfl⟩ scNeed (fun vs H Q E h => ?_) (fun _ _ _ _ _ _ us hl => match us, hl with | [_, _], _ => rfl) (fun cdv A outer s H vs Q E hr h => ?_)
  · obtain ⟨l, ow, a, i, S, x, v, t, rfl, _⟩ := h
    rfl
  · obtain ⟨l, ow, a, i, S, x, v, t, rfl, hh, hv, q1, q2⟩ := h
    obtain ⟨b, rfl, hb⟩ := hv.th
    refine ⟨_, pss_cons (ps_if (pt_cmp (pc_dnotin (hu_of hr) (pv 1) (pe_fld (pv 0) rfl)))
        (pss_one (ps_raise rfl (takes_of rfl rfl rfl rfl) (pmk_own PySem.F.excBase_ValueError T.e_NotHeld.1 T.g_NotHeld T.e_NotHeld.2.1 (raises_own T.e_NotHeld.2.2.1 T.e_NotHeld.2.2.2) rfl))) pss_nil)
      (pss_one (ps_ret (pv 1))), ?_⟩
    refine ⟨_, rfl, _, rfl, _, _, _, _, _, rfl, hh.ob, T.c_House, T.n_House_hand, hf_hand, _, _, rfl, DGet.t (k := kP t) hh.hd hb, _, rfl, ?_⟩
    rw [hE_get]
    by_cases ht : t ∈ S.hand
    · rw [if_pos ht]
      exact iteF ⟨_, rfl, q1 ht⟩
    · rw [if_neg ht]
      exact iteT (q2 ht)
end
end Fh

set_option Elab.async false
set_option linter.all false
set_option maxRecDepth 100000
set_option maxHeartbeats 4000000
namespace Fh
open PySem PySem.Spec L2 FhR
open Fm (Th Hs StD Wd Er HG HB)
/-- outwards: what a called def raises -/
theorem passC {X : Cx} {E : XK} (tk : L2N.Takes X (fun cls d _ H => E cls d H)) : Passes (L2N.CX X.prog X.w) X E := L2N.passes_call tk fun _ _ _ _ h => h
theorem li (l : Lab) : (fun m => m = l) l := rfl
theorem line_lt {n : Nat} (h : n ≤ 1000) : n < sizeLine := by rw [sizeLine_eq]; omega
/-- what a deed of a house leaves -/
def Aft (K : PySem.W.Frag) (l : Lab) (H : Hp) (ow : Ow) (a : Addr) (i : Int) (S' : Hs) (k : Hp → Prop) : Prop :=
  ∀ H' ow', Frm (fun m => m = l) H ow H' ow' → HAt (hC K) l H' ow' a i S' → k H'
def Res (K : PySem.W.Frag) (l : Lab) (H : Hp) (ow : Ow) (a : Addr) (i : Int) (r : Except Er Hs) (Q : VK) (E : XK) : Prop :=
  match r with
  | .ok S' => Aft K l H ow a i S' (Q .non)
  | .error e => E (exn K e) none H
def spHeldBy (K : PySem.W.Frag) : Sp := fun vs H Q E => ∃ (l : Lab) (ow : Ow) (a : Addr) (i : Int) (S : Hs) (x : HAd) (v : V) (t : Th), vs = [.ref a, v] ∧ HIs (hC K) l H ow a i S x ∧ DV H v (dTh t) ∧
  (t ∉ S.hand → E (exn K .notHeld) none H) ∧ (t ∈ S.hand → t.1 ≠ i → E (exn K .notNear) none H) ∧ (t ∈ S.hand → t.1 = i → ∃ p, Fm.dget x.ia t.2 = some p ∧ Q (.ref p) H)
/-- a deed with one thing, with two -/
def spDeed1 (K : PySem.W.Frag) (f : Int → Hs → Th → Except Er Hs) : Sp := fun vs H Q E => ∃ (l : Lab) (ow : Ow) (a : Addr) (i : Int) (S : Hs) (v : V) (t : Th), vs = [.ref a, v] ∧ HAt (hC K) l H ow a i S ∧ Clean H ow ∧ HG i S ∧ HB S ∧ DV H v (dTh t) ∧
  Res K l H ow a i (f i S t) Q E
def spDeed2 (K : PySem.W.Frag) (f : Int → Hs → Th → Th → Except Er Hs) : Sp := fun vs H Q E => ∃ (l : Lab) (ow : Ow) (a : Addr) (i : Int) (S : Hs) (v1 v2 : V) (t1 t2 : Th), vs = [.ref a, v1, v2] ∧ HAt (hC K) l H ow a i S ∧ Clean H ow ∧ HG i S ∧ HB S ∧
  DV H v1 (dTh t1) ∧ DV H v2 (dTh t2) ∧ Res K l H ow a i (f i S t1 t2) Q E
def spMake (K : PySem.W.Frag) : Sp := fun vs H Q E => ∃ (l : Lab) (ow : Ow) (a : Addr) (i : Int) (S : Hs), vs = [.ref a] ∧ HAt (hC K) l H ow a i S ∧ Clean H ow ∧ HG i S ∧ HB S ∧
  ∀ H' ow' v, Frm (fun m => m = l) H ow H' ow' → HAt (hC K) l H' ow' a i (S.make i) → DV H' v (dTh (i, S.made)) → Q v H'
section
variable {P : Program} {w : World} {K : PySem.W.Frag} {mg : Str → Option Value} {base : Heap}
theorem keepN {H : Hp} {a b : Addr} {o : HO} {xs : List V} (e : H b = some (.tup xs)) (n : H a = none) : upd H a o b = some (.tup xs) := by
  rw [upd_ne (ne_of_none e n)]
  exact e
theorem keepD {H : Hp} {a b : Addr} {o o' : HO} {xs : List V} (e : H b = some (.tup xs)) (h : H a = some o') (n : HO.tup xs ≠ o') : upd H a o b = some (.tup xs) := by
  rw [upd_ne (ne_of e h n)]
  exact e
theorem HIs.same {C a : Addr} {l : Lab} {H : Hp} {ow : Ow} {i : Int} {S S' : Hs} {x : HAd} (h : HIs C l H ow a i S x) (e : S = S') : HIs C l H ow a i S' x := e ▸ h
theorem scHeldBy : FnScope ["self", "a"] ["self", "a"] (defScope sH_held_by) := ⟨rfl, rfl, rfl, by decide +kernel, rfl, by decide +kernel, by decide +kernel⟩
theorem ok_held_by (T : Tx K mg) : Ok P w K mg base 2 dH_held_by ["self", "a"] (spHeldBy K) := by
  obtain ⟨f1, F1, b1, k1⟩ := ok_need (P := P) (w := w) (base := base) T
  refine Ok.mk T 6 rfl ⟨rfl, rfl⟩ scHeldBy (fun vs H Q E h => ?_) (fun _ _ _ _ _ _ us hl => match us, hl with | [_, _], _ => rfl) (fun cdv A outer s H vs Q E hr h => ?_)
  · obtain ⟨l, ow, a, i, S, x, v, t, rfl, _⟩ := h
    rfl
  · obtain ⟨l, ow, a, i, S, x, v, t, rfl, hh, hv, q1, q2, q3⟩ := h
    obtain ⟨b, rfl, hb⟩ := id hv.th
    refine ⟨_, pss_cons (ps_if (pt_cmpR op_ne (pe_ix ix_tup (pe_meth (pv 0) T.c_House T.m_House_need F1 hr b1 .nil (passC (takes_of rfl rfl rfl rfl)) (pa_cons (pv 1) pa_nil)) pe_int (fun _ _ => rfl)) (pe_fld (pv 0) rfl) (nomark _))
        (pss_one (ps_raise rfl (takes_of rfl rfl rfl rfl) (pmk_own PySem.F.excBase_ValueError T.e_NotNear.1 T.g_NotNear T.e_NotNear.2.1 (raises_own T.e_NotNear.2.2.1 T.e_NotNear.2.2.2) rfl))) pss_nil)
      (pss_one (ps_ret (pe_dget (hu_of hr) (pe_fld (pv 0) rfl) (pe_ix ix_tup (pv 1) pe_int (fun _ _ => rfl)) (fun _ _ => rfl)))), ?_⟩
    refine ⟨_, rfl, _, _, _, rfl, hh.ob, hf_need, _, rfl, l, ow, a, i, S, x, _, t, rfl, hh, hv, fun ht => ?_, q1⟩
    refine ⟨_, _, _, _, rfl, rfl, SqT.of hb, atI_nat (j := 0) rfl, _, rfl, _, _, _, _, _, rfl, hh.ob, T.c_House, T.n_House_number, hf_number, rfl, _, rfl, ?_⟩
    by_cases e : t.1 = i
    · have e1 : (!decide (V.int t.1 = V.int i)) = false := by simp [e]
      rw [e1]
      refine iteF ?_
      obtain ⟨p, hp, q⟩ := q3 ht e
      refine ⟨_, rfl, _, _, _, _, _, rfl, hh.ob, T.c_House, T.n_House_holding, hf_holding, _, rfl, _, _, _, _, rfl, rfl, SqT.of hb, atI_nat (j := 1) rfl, _, .ref p, rfl, ?_, q⟩
      have := DGet.k (k := Sum.inl t.2) hh.hg
      rw [emb_get inli, hp] at this
      exact this
    · have e1 : (!decide (V.int t.1 = V.int i)) = true := by simp [e]
      rw [e1]
      exact iteT (q2 ht e)
theorem scMake : FnScope ["self", "thing"] ["self"] (defScope sH_make) := ⟨rfl, rfl, rfl, by decide +kernel, rfl, by decide +kernel, by decide +kernel⟩
theorem ok_make (T : Tx K mg) : Ok P w K mg base 1 dH_make ["self"] (spMake K) := by
  refine Ok.mk T 7 rfl ⟨rfl, rfl⟩ scMake (fun vs H Q E h => ?_) (fun _ _ _ _ _ _ us hl => match us, hl with | [_], _ => rfl) (fun cdv A outer s H vs Q E hr h => ?_)
  · obtain ⟨l, ow, a, i, S, rfl, _⟩ := h
    rfl
  · obtain ⟨l, ow, a, i, S, rfl, ⟨x, hh⟩, hcl, hg, hb, q⟩ := h
    have hu := hu_of hr
    refine ⟨_, pss_cons (ps_set (i := 1) scMake.nd rfl (.inl rfl) (pe_tup (pa_cons (pe_fld (pv 0) rfl) (pa_cons (pe_fld (pv 0) rfl) pa_nil))))
      (pss_cons (ps_fld (pv 0) (pe_op op_add (pe_fld (pv 0) rfl) pe_int) rfl)
      (pss_cons (ps_dput hu (pe_fld (pv 0) rfl) (pe_ix ix_tup (pv 1) pe_int (fun _ _ => rfl)) pe_dnewT rfl)
      (pss_cons (ps_dput hu (pe_fld (pv 0) rfl) (pe_ix ix_tup (pv 1) pe_int (fun _ _ => rfl)) pe_int rfl)
      (pss_cons (ps_dput hu (pe_fld (pv 0) rfl) (pv 1) pe_bl rfl)
      (pss_cons (ps_fld (pv 0) (pe_op op_add (pe_fld (pv 0) rfl) pe_int) rfl)
      (pss_one (ps_ret (pv 1)))))))), ?_⟩
    have hn : S.made ∉ Fm.keys S.holding := fun z => by have := (hg.num _ z).2; omega
    -- thing
    refine ⟨_, rfl, _, _, _, _, _, rfl, hh.ob, T.c_House, T.n_House_number, hf_number, _, rfl, _, _, _, _, _, rfl, hh.ob, T.c_House, T.n_House_made, hf_made, (by show 2 ≤ sizeLine; decide), fun p1 n1 => ?_⟩
    have h1 := hh.new (o := .tup [.int i, .int S.made]) n1
    have f1 : Frm (fun m => m = l) H ow _ ow := (Frm.refl).new (o := .tup [.int i, .int S.made]) n1
    have e1 : upd H p1 (.tup [.int i, .int S.made]) p1 = some (.tup [.int i, .int S.made]) := upd_same
    -- self.made
    refine ⟨_, rfl, _, _, _, _, _, rfl, h1.ob, T.c_House, T.n_House_made, hf_made, _, _, rfl, rfl, _, rfl, _, _, _, _, rfl, h1.ob, T.c_House, T.n_House_made, hf_len, ?_⟩
    rw [hf_set_made]
    have h2 := h1.ob' (S.made + 1) S.ticks
    have f2 := f1.lab (o' := .ins (hC K) x.dx (hf i (S.made + 1) S.ticks x.hd x.hg x.ho x.hr)) hh.ob (by intro xs z; cases z) hh.la rfl
    have t2 := keepD (o := .ins (hC K) x.dx (hf i (S.made + 1) S.ticks x.hd x.hg x.ho x.hr)) e1 h1.ob (by intro z; cases z)
    -- self.holding[..] = {}
    intro p2 n2
    have h3 := h2.new (o := .dT []) n2
    have f3 := f2.new (o := .dT []) n2
    have t3 := keepN (o := .dT []) t2 n2
    have n2' : H p2 = none := f2.none_back n2
    have f3 := f3.label (l := l) n2' ⟨_, upd_same⟩
    refine ⟨_, rfl, _, _, _, _, _, rfl, h3.ob, T.c_House, T.n_House_holding, hf_holding, _, rfl, _, _, _, _, rfl, rfl, SqT.of t3, atI_nat (j := 1) rfl, _, _, rfl, DPut.k (k := Sum.inl S.made) h3.hg (by rw [emb_length, ← List.length_map (f := Prod.fst)]; show (Fm.keys x.ia).length < _; rw [hh.keys]; show (S.holding.map _).length < _; rw [List.length_map]; exact line_lt hb.hg), ?_⟩
    have hn3 : S.made ∉ Fm.keys x.ia := by rw [hh.keys]; exact hn
    rw [show (V.ref p2 : V) = (fun b => V.ref b) p2 from rfl, emb_put inli x.ia S.made p2, Fm.dput_out hn3]
    have np2 : ow p2 = none := f2.cl hcl _ n2
    have h4 := h3.add (n := S.made) (p := p2) hn upd_same np2
    have f4 := f3.lab (o' := .dK (eA (x.ia ++ [(S.made, p2)]))) hh.hg (by intro xs z; cases z) hh.lg rfl
    have t4 := keepD (o := .dK (eA (x.ia ++ [(S.made, p2)]))) t3 h3.hg (by intro z; cases z)
    -- self.outs[..] = 0
    refine ⟨_, rfl, _, _, _, _, _, rfl, h4.ob, T.c_House, T.n_House_outs, hf_outs, _, rfl, _, _, _, _, rfl, rfl, SqT.of t4, atI_nat (j := 1) rfl, _, _, rfl, DPut.k (k := Sum.inl S.made) h4.ho (by rw [emb_length]; exact line_lt hb.ho), ?_⟩
    rw [emb_put inli S.outs S.made 0]
    have h5 := h4.ho' (Fm.dput S.outs S.made 0)
    have f5 := f4.lab (o' := .dK (eI (Fm.dput S.outs S.made 0))) hh.ho (by intro xs z; cases z) hh.lo rfl
    have t5 := keepD (o := .dK (eI (Fm.dput S.outs S.made 0))) t4 h4.ho (by intro z; cases z)
    -- self.hand[thing] = True
    refine ⟨_, rfl, _, _, _, _, _, rfl, h5.ob, T.c_House, T.n_House_hand, hf_hand, _, rfl, _, _, rfl, DPut.t (k := kP (i, S.made)) h5.hd t5 (by rw [hE_length]; exact line_lt hb.hd), ?_⟩
    rw [hE_put]
    have h6 := h5.hd' (Fm.hput S.hand (i, S.made))
    have f6 := f5.lab (o' := .dT (hE (Fm.hput S.hand (i, S.made)))) hh.hd (by intro xs z; cases z) hh.ld rfl
    have t6 := keepD (o := .dT (hE (Fm.hput S.hand (i, S.made)))) t5 h5.hd (by intro z; cases z)
    -- self.ticks
    refine ⟨_, rfl, _, _, _, _, _, rfl, h6.ob, T.c_House, T.n_House_ticks, hf_ticks, _, _, rfl, rfl, _, rfl, _, _, _, _, rfl, h6.ob, T.c_House, T.n_House_ticks, hf_len, ?_⟩
    rw [hf_set_ticks]
    have h7 := h6.ob' (S.made + 1) (S.ticks + 1)
    have f7 := f6.lab (o' := .ins (hC K) x.dx (hf i (S.made + 1) (S.ticks + 1) x.hd x.hg x.ho x.hr)) hh.ob (by intro xs z; cases z) hh.la rfl
    have t7 := keepD (o := .ins (hC K) x.dx (hf i (S.made + 1) (S.ticks + 1) x.hd x.hg x.ho x.hr)) t6 h6.ob (by intro z; cases z)
    refine ⟨_, rfl, q _ _ _ f7 ⟨_, h7.same ?_⟩ (.mkTh t7)⟩
    unfold Hs.make
    rw [Fm.dput_out hn]
end
end Fh

set_option Elab.async false
set_option linter.all false
set_option maxRecDepth 100000
set_option maxHeartbeats 4000000
namespace Fh
open PySem PySem.Spec L2 FhR
open Fm (Th Hs StD Wd Er HG HB)
section
variable {P : Program} {w : World} {K : PySem.W.Frag} {mg : Str → Option Value} {base : Heap}
theorem inner_len {S : Hs} {n : Int} {ts : List Th} (hb : HB S) (e : Fm.dget S.holding n = some ts) : (hE ts).length < sizeLine := by
  rw [hE_length]
  exact line_lt (hb.inn _ (Fm.dget_mem e))
theorem scHold : FnScope ["self", "a", "b"] ["self", "a", "b"] (defScope sH_hold) := ⟨rfl, rfl, rfl, by decide +kernel, rfl, by decide +kernel, by decide +kernel⟩
theorem ok_hold (T : Tx K mg) : Ok P w K mg base 3 dH_hold ["self", "a", "b"] (spDeed2 K Hs.hold) := by
  obtain ⟨f1, F1, b1, k1⟩ := ok_need (P := P) (w := w) (base := base) T
  obtain ⟨f2, F2, b2, k2⟩ := ok_held_by (P := P) (w := w) (base := base) T
  refine Ok.mk T 8 rfl ⟨rfl, rfl⟩ scHold (fun vs H Q E h => ?_) (fun _ _ _ _ _ _ us hl => match us, hl with | [_, _, _], _ => rfl) (fun cdv A outer s H vs Q E hr h => ?_)
  · obtain ⟨l, ow, a, i, S, v1, v2, t1, t2, rfl, _⟩ := h
    rfl
  · obtain ⟨l, ow, a, i, S, v1, v2, t1, t2, rfl, ⟨x, hh⟩, hcl, hg, hb, hv1, hv2, q⟩ := h
    have hu := hu_of hr
    have hr1 := hr.mono (show 1 ≤ 2 by decide)
    refine ⟨_, pss_cons (ps_expr (pe_meth (pv 0) T.c_House T.m_House_need F1 hr1 b1 .nil (passC (takes_of rfl rfl rfl rfl)) (pa_cons (pv 1) pa_nil)))
      (pss_cons (ps_expr (pe_meth (pv 0) T.c_House T.m_House_need F1 hr1 b1 .nil (passC (takes_of rfl rfl rfl rfl)) (pa_cons (pv 2) pa_nil)))
      (pss_cons (ps_dput hu (pe_meth (pv 0) T.c_House T.m_House_held_by F2 hr b2 .nil (passC (takes_of rfl rfl rfl rfl)) (pa_cons (pv 1) pa_nil)) (pv 2) pe_bl rfl)
      (pss_one (ps_fld (pv 0) (pe_op op_add (pe_fld (pv 0) rfl) pe_int) rfl)))), ?_⟩
    unfold Hs.hold at q
    obtain ⟨c2, rfl, hc2⟩ := id hv2.th
    refine ⟨_, rfl, _, _, _, rfl, hh.ob, hf_need, _, rfl, l, ow, a, i, S, x, _, t1, rfl, hh, hv1, fun h1 => ?_, fun h1 => ?_⟩
    · rw [if_pos h1] at q
      refine ⟨_, rfl, _, _, _, rfl, hh.ob, hf_need, _, rfl, l, ow, a, i, S, x, _, t2, rfl, hh, hv2, fun h2 => ?_, fun h2 => ?_⟩
      · rw [if_pos h2] at q
        refine ⟨_, rfl, _, _, _, rfl, hh.ob, hf_held_by, _, rfl, l, ow, a, i, S, x, _, t1, rfl, hh, hv1, fun n1 => absurd h1 n1, fun _ n => ?_, fun _ e => ?_⟩
        · rw [if_neg n] at q
          exact q
        · rw [if_pos e] at q
          obtain ⟨ts, ets⟩ := Fm.dget_some (hg.near _ h1 e)
          obtain ⟨p, hp, hpd, hpo⟩ := hh.at_ ets
          refine ⟨p, hp, _, rfl, p, _, rfl, DPut.t (k := kP t2) hpd hc2 (inner_len hb ets), ?_⟩
          rw [hE_put]
          have h1' := hh.in' hg.nd hp (fun l => Fm.hput l t2) ets
          have f1' : Frm (fun m => m = l) H ow _ ow := (Frm.refl).lab (o' := .dT (hE (Fm.hput ts t2))) hpd (by intro xs z; cases z) hpo rfl
          refine ⟨_, rfl, _, _, _, _, _, rfl, h1'.ob, T.c_House, T.n_House_ticks, hf_ticks, _, _, rfl, rfl, _, rfl, _, _, _, _, rfl, h1'.ob, T.c_House, T.n_House_ticks, hf_len, ?_⟩
          rw [hf_set_ticks]
          exact q _ _ (f1'.lab hh.ob (by intro xs z; cases z) hh.la rfl) ⟨_, h1'.ob' S.made (S.ticks + 1)⟩
      · rw [if_neg h2] at q
        exact q
    · rw [if_neg h1] at q
      exact q
theorem scDrop : FnScope ["self", "a", "b", "held"] ["self", "a", "b"] (defScope sH_drop) := ⟨rfl, rfl, rfl, by decide +kernel, rfl, by decide +kernel, by decide +kernel⟩
theorem ok_drop (T : Tx K mg) : Ok P w K mg base 3 dH_drop ["self", "a", "b"] (spDeed2 K Hs.drop) := by
  obtain ⟨f2, F2, b2, k2⟩ := ok_held_by (P := P) (w := w) (base := base) T
  refine Ok.mk T 9 rfl ⟨rfl, rfl⟩ scDrop (fun vs H Q E h => ?_) (fun _ _ _ _ _ _ us hl => match us, hl with | [_, _, _], _ => rfl) (fun cdv A outer s H vs Q E hr h => ?_)
  · obtain ⟨l, ow, a, i, S, v1, v2, t1, t2, rfl, _⟩ := h
    rfl
  · obtain ⟨l, ow, a, i, S, v1, v2, t1, t2, rfl, ⟨x, hh⟩, hcl, hg, hb, hv1, hv2, q⟩ := h
    have hu := hu_of hr
    refine ⟨_, pss_cons (ps_set (i := 3) scDrop.nd rfl (.inl rfl) (pe_meth (pv 0) T.c_House T.m_House_held_by F2 hr b2 .nil (passC (takes_of rfl rfl rfl rfl)) (pa_cons (pv 1) pa_nil)))
      (pss_cons (ps_if (pt_cmp (pc_dnotin hu (pv 2) (pv 3)))
        (pss_one (ps_raise rfl (takes_of rfl rfl rfl rfl) (pmk_own PySem.F.excBase_ValueError T.e_Missing.1 T.g_Missing T.e_Missing.2.1 (raises_own T.e_Missing.2.2.1 T.e_Missing.2.2.2) rfl))) pss_nil)
      (pss_cons (ps_expr (pe_bm PySem.F.plainAttrs_dict PySem.F.slot_dict_pop PySem.F.type_dict_pop (mt_popT1 hu) (pv 3) (pa_cons (pv 2) pa_nil)))
      (pss_one (ps_fld (pv 0) (pe_op op_add (pe_fld (pv 0) rfl) pe_int) rfl)))), ?_⟩
    unfold Hs.drop Hs.heldBy at q
    obtain ⟨c2, rfl, hc2⟩ := id hv2.th
    refine ⟨_, rfl, _, _, _, rfl, hh.ob, hf_held_by, _, rfl, l, ow, a, i, S, x, _, t1, rfl, hh, hv1, fun n1 => ?_, fun h1 n => ?_, fun h1 e => ?_⟩
    · rw [if_neg n1] at q
      exact q
    · rw [if_pos h1, if_neg n] at q
      exact q
    · rw [if_pos h1, if_pos e] at q
      obtain ⟨ts, ets⟩ := Fm.dget_some (hg.near _ h1 e)
      rw [ets] at q
      obtain ⟨p, hp, hpd, hpo⟩ := hh.at_ ets
      refine ⟨p, hp, _, rfl, _, rfl, p, _, rfl, DGet.t (k := kP t2) hpd hc2, _, rfl, ?_⟩
      rw [hE_get]
      by_cases h2 : t2 ∈ ts
      · rw [if_pos h2]
        have q' : Aft K l H ow a i { S with holding := Fm.dmod S.holding t1.2 (fun l => Fm.hdrop l t2), ticks := S.ticks + 1 } (Q .non) := by
          have q2 := q
          dsimp only [Option.getD_some] at q2
          rw [if_pos h2] at q2
          exact q2
        refine iteF ⟨_, rfl, .inr (.inr (.inl ⟨rfl, .inr ⟨_, hpd⟩⟩)), _, rfl, p, _, kP t2, c2, .bl true, rfl, rfl, hpd, hc2, by rw [hE_get, if_pos h2], ?_⟩
        rw [hE_drop]
        have h1' := hh.in' hg.nd hp (fun l => Fm.hdrop l t2) ets
        have f1' : Frm (fun m => m = l) H ow _ ow := (Frm.refl).lab (o' := .dT (hE (Fm.hdrop ts t2))) hpd (by intro xs z; cases z) hpo rfl
        refine ⟨_, rfl, _, _, _, _, _, rfl, h1'.ob, T.c_House, T.n_House_ticks, hf_ticks, _, _, rfl, rfl, _, rfl, _, _, _, _, rfl, h1'.ob, T.c_House, T.n_House_ticks, hf_len, ?_⟩
        rw [hf_set_ticks]
        exact q' _ _ (f1'.lab hh.ob (by intro xs z; cases z) hh.la rfl) ⟨_, h1'.ob' S.made (S.ticks + 1)⟩
      · rw [if_neg h2]
        refine iteT ?_
        have q2 := q
        dsimp only [Option.getD_some] at q2
        rw [if_neg h2] at q2
        exact q2
theorem scTake : FnScope ["self", "a", "b"] ["self", "a", "b"] (defScope sH_take) := ⟨rfl, rfl, rfl, by decide +kernel, rfl, by decide +kernel, by decide +kernel⟩
theorem ok_take (T : Tx K mg) : Ok P w K mg base 3 dH_take ["self", "a", "b"] (spDeed2 K Hs.take) := by
  obtain ⟨f2, F2, b2, k2⟩ := ok_held_by (P := P) (w := w) (base := base) T
  refine Ok.mk T 10 rfl ⟨rfl, rfl⟩ scTake (fun vs H Q E h => ?_) (fun _ _ _ _ _ _ us hl => match us, hl with | [_, _, _], _ => rfl) (fun cdv A outer s H vs Q E hr h => ?_)
  · obtain ⟨l, ow, a, i, S, v1, v2, t1, t2, rfl, _⟩ := h
    rfl
  · obtain ⟨l, ow, a, i, S, v1, v2, t1, t2, rfl, ⟨x, hh⟩, hcl, hg, hb, hv1, hv2, q⟩ := h
    have hu := hu_of hr
    refine ⟨_, pss_cons (ps_if (pt_cmp (pc_dnotin hu (pv 2) (pe_meth (pv 0) T.c_House T.m_House_held_by F2 hr b2 .nil (passC (takes_of rfl rfl rfl rfl)) (pa_cons (pv 1) pa_nil))))
        (pss_one (ps_raise rfl (takes_of rfl rfl rfl rfl) (pmk_own PySem.F.excBase_ValueError T.e_Missing.1 T.g_Missing T.e_Missing.2.1 (raises_own T.e_Missing.2.2.1 T.e_Missing.2.2.2) rfl))) pss_nil)
      (pss_cons (ps_dput hu (pe_fld (pv 0) rfl) (pv 2) pe_bl rfl)
      (pss_one (ps_fld (pv 0) (pe_op op_add (pe_fld (pv 0) rfl) pe_int) rfl))), ?_⟩
    unfold Hs.take Hs.heldBy at q
    obtain ⟨c2, rfl, hc2⟩ := id hv2.th
    refine ⟨_, rfl, _, rfl, _, _, _, rfl, hh.ob, hf_held_by, _, rfl, l, ow, a, i, S, x, _, t1, rfl, hh, hv1, fun n1 => ?_, fun h1 n => ?_, fun h1 e => ?_⟩
    · rw [if_neg n1] at q
      exact q
    · rw [if_pos h1, if_neg n] at q
      exact q
    · rw [if_pos h1, if_pos e] at q
      obtain ⟨ts, ets⟩ := Fm.dget_some (hg.near _ h1 e)
      rw [ets] at q
      obtain ⟨p, hp, hpd, hpo⟩ := hh.at_ ets
      refine ⟨p, hp, p, _, rfl, DGet.t (k := kP t2) hpd hc2, _, rfl, ?_⟩
      rw [hE_get]
      by_cases h2 : t2 ∈ ts
      · rw [if_pos h2]
        have q' : Aft K l H ow a i { S with hand := Fm.hput S.hand t2, ticks := S.ticks + 1 } (Q .non) := by
          have q2 := q
          dsimp only [Option.getD_some] at q2
          rw [if_pos h2] at q2
          exact q2
        refine iteF ⟨_, rfl, _, _, _, _, _, rfl, hh.ob, T.c_House, T.n_House_hand, hf_hand, _, rfl, _, _, rfl, DPut.t (k := kP t2) hh.hd hc2 (by rw [hE_length]; exact line_lt hb.hd), ?_⟩
        rw [hE_put]
        have h1' := hh.hd' (Fm.hput S.hand t2)
        have f1' : Frm (fun m => m = l) H ow _ ow := (Frm.refl).lab (o' := .dT (hE (Fm.hput S.hand t2))) hh.hd (by intro xs z; cases z) hh.ld rfl
        refine ⟨_, rfl, _, _, _, _, _, rfl, h1'.ob, T.c_House, T.n_House_ticks, hf_ticks, _, _, rfl, rfl, _, rfl, _, _, _, _, rfl, h1'.ob, T.c_House, T.n_House_ticks, hf_len, ?_⟩
        rw [hf_set_ticks]
        exact q' _ _ (f1'.lab hh.ob (by intro xs z; cases z) hh.la rfl) ⟨_, h1'.ob' S.made (S.ticks + 1)⟩
      · rw [if_neg h2]
        refine iteT ?_
        have q2 := q
        dsimp only [Option.getD_some] at q2
        rw [if_neg h2] at q2
        exact q2
theorem scFree : FnScope ["self", "b"] ["self", "b"] (defScope sH_free) := ⟨rfl, rfl, rfl, by decide +kernel, rfl, by decide +kernel, by decide +kernel⟩
theorem ok_free (T : Tx K mg) : Ok P w K mg base 2 dH_free ["self", "b"] (spDeed1 K fun _ S b => S.free b) := by
  obtain ⟨f1, F1, b1, k1⟩ := ok_need (P := P) (w := w) (base := base) T
  refine Ok.mk T 11 rfl ⟨rfl, rfl⟩ scFree (fun vs H Q E h => ?_) (fun _ _ _ _ _ _ us hl => match us, hl with | [_, _], _ => rfl) (fun cdv A outer s H vs Q E hr h => ?_)
  · obtain ⟨l, ow, a, i, S, v1, t1, rfl, _⟩ := h
    rfl
  · obtain ⟨l, ow, a, i, S, v1, t1, rfl, ⟨x, hh⟩, hcl, hg, hb, hv1, q⟩ := h
    have hu := hu_of hr
    refine ⟨_, pss_cons (ps_expr (pe_bm PySem.F.plainAttrs_dict PySem.F.slot_dict_pop PySem.F.type_dict_pop (mt_popT1 hu) (pe_fld (pv 0) rfl) (pa_cons (pe_meth (pv 0) T.c_House T.m_House_need F1 hr b1 .nil (passC (takes_of rfl rfl rfl rfl)) (pa_cons (pv 1) pa_nil)) pa_nil)))
      (pss_one (ps_fld (pv 0) (pe_op op_add (pe_fld (pv 0) rfl) pe_int) rfl)), ?_⟩
    unfold Hs.free at q
    dsimp only at q
    obtain ⟨c1, rfl, hc1⟩ := id hv1.th
    refine ⟨_, rfl, _, _, _, _, _, rfl, hh.ob, T.c_House, T.n_House_hand, hf_hand, .inr (.inr (.inl ⟨rfl, .inr ⟨_, hh.hd⟩⟩)), _, rfl, _, _, _, rfl, hh.ob, hf_need, _, rfl, l, ow, a, i, S, x, _, t1, rfl, hh, hv1, fun h1 => ?_, fun h1 => ?_⟩
    · rw [if_pos h1] at q
      refine ⟨_, _, kP t1, c1, .bl true, rfl, rfl, hh.hd, hc1, by rw [hE_get, if_pos h1], ?_⟩
      rw [hE_drop]
      have h1' := hh.hd' (Fm.hdrop S.hand t1)
      have f1' : Frm (fun m => m = l) H ow _ ow := (Frm.refl).lab (o' := .dT (hE (Fm.hdrop S.hand t1))) hh.hd (by intro xs z; cases z) hh.ld rfl
      refine ⟨_, rfl, _, _, _, _, _, rfl, h1'.ob, T.c_House, T.n_House_ticks, hf_ticks, _, _, rfl, rfl, _, rfl, _, _, _, _, rfl, h1'.ob, T.c_House, T.n_House_ticks, hf_len, ?_⟩
      rw [hf_set_ticks]
      exact q _ _ (f1'.lab hh.ob (by intro xs z; cases z) hh.la rfl) ⟨_, h1'.ob' S.made (S.ticks + 1)⟩
    · rw [if_neg h1] at q
      exact q
end
end Fh

set_option Elab.async false
set_option linter.all false
set_option maxRecDepth 100000
set_option maxHeartbeats 4000000
namespace Fh
open PySem PySem.Spec L2 FhR
open Fm (Th Hs StD Wd Er HG HB)
theorem getD_int (o : Option Int) : (o.map V.int).getD (.int 0) = .int (o.getD 0) := by cases o <;> rfl
theorem decV (a b : Int) : decide (V.int a = V.int b) = decide (a = b) := decide_eq_decide.mpr ⟨fun h => V.int.inj h, fun h => by rw [h]⟩
def spParted : Sp := fun vs H Q _ => ∃ w : Int, vs = [.int w] ∧ ∀ p, H p = none → Q (.ref p) (upd H p (.tup [.int (Fm.parted w).1, .int (Fm.parted w).2]))
def spIsLast (K : PySem.W.Frag) : Sp := fun vs H Q _ => ∃ (l : Lab) (ow : Ow) (a : Addr) (i : Int) (S : Hs) (v : V) (t : Th), vs = [.ref a, v] ∧ HAt (hC K) l H ow a i S ∧ DV H v (dTh t) ∧ Q (.bl (S.isLast t)) H
def spPart (K : PySem.W.Frag) : Sp := fun vs H Q E => ∃ (l : Lab) (ow : Ow) (a : Addr) (i : Int) (S : Hs) (v : V) (t : Th) (share : Int), vs = [.ref a, v, .int share] ∧ HAt (hC K) l H ow a i S ∧ Clean H ow ∧ HG i S ∧ HB S ∧ DV H v (dTh t) ∧
  match S.part i t share with
  | .ok (S', n) => Aft K l H ow a i S' (Q (.int n))
  | .error e => E (exn K e) none H
/-- weight comes -/
def spCome (K : PySem.W.Frag) (m : Nat) (f : Int → Hs → Th → Int → Hs) : Sp := fun vs H Q _ => ∃ (l : Lab) (ow : Ow) (a : Addr) (i : Int) (S : Hs) (v : V) (t : Th) (n : Int), vs = [.ref a, v, .int n] ∧ HAt (hC K) l H ow a i S ∧ Clean H ow ∧ S.hand.length ≤ m ∧ S.outs.length ≤ 1000 ∧ S.recs.length ≤ 1000 ∧ DV H v (dTh t) ∧
  Aft K l H ow a i (f i S t n) (Q .non)
def spPassed (K : PySem.W.Frag) : Sp := fun vs H Q _ => ∃ (l : Lab) (ow : Ow) (a : Addr) (i : Int) (S : Hs) (v : V) (t : Th) (n : Int) (m : Bool), vs = [.ref a, v, .int n, .bl m] ∧ HAt (hC K) l H ow a i S ∧ Clean H ow ∧ HB S ∧ DV H v (dTh t) ∧ t.2 ∈ Fm.keys S.outs ∧
  Aft K l H ow a i (S.passed t n m) (Q .non)
def spTick (K : PySem.W.Frag) : Sp := fun vs H Q _ => ∃ (l : Lab) (ow : Ow) (a : Addr) (i : Int) (S : Hs), vs = [.ref a] ∧ HAt (hC K) l H ow a i S ∧ Q (.int S.ticks) H
def spHouse (K : PySem.W.Frag) : Sp := fun vs H Q _ => ∃ (l : Lab) (ow : Ow) (a dx : Addr) (i : Int), vs = [.ref a, .int i] ∧ H a = some (.ins (hC K) dx []) ∧ ow a = some l ∧ Clean H ow ∧ Aft K l H ow a i Hs.new (Q .non)
section
variable {P : Program} {w : World} {K : PySem.W.Frag} {mg : Str → Option Value} {base : Heap}
theorem scParted : FnScope ["weight"] ["weight"] (defScope s_parted) := ⟨rfl, rfl, rfl, by decide +kernel, rfl, by decide +kernel, by decide +kernel⟩
theorem ok_parted (T : Tx K mg) : Ok P w K mg base 1 d_parted ["weight"] spParted := by
  refine Ok.mk T 0 rfl ⟨rfl, rfl⟩ scParted (fun vs H Q E h => ?_) (fun _ _ _ _ _ _ us hl => match us, hl with | [_], _ => rfl) (fun cdv A outer s H vs Q E hr h => ?_)
  · obtain ⟨n, rfl, _⟩ := h
    rfl
  · obtain ⟨n, rfl, q⟩ := h
    refine ⟨_, pss_cons (ps_if (pt_cmpR op_eq (pv 0) pe_int (nomark _)) (pss_one (ps_ret (pe_tup (pa_cons pe_int (pa_cons pe_int pa_nil))))) pss_nil)
      (pss_one (ps_ret (pe_tup (pa_cons (pe_op op_sub (pv 0) (pe_op op_fdiv (pv 0) pe_int)) (pa_cons (pe_op op_fdiv (pv 0) pe_int) pa_nil))))), ?_⟩
    refine ⟨_, rfl, rfl, _, rfl, ?_⟩
    rw [decV]
    unfold Fm.parted at q
    by_cases h : n = 1
    · rw [if_pos h] at q
      rw [decide_eq_true h]
      exact iteT ⟨by show 2 ≤ sizeLine; decide, q⟩
    · rw [if_neg h] at q
      rw [decide_eq_false h]
      exact iteF ⟨_, rfl, _, rfl, _, _, rfl, rfl, ⟨by decide, by decide⟩, _, _, rfl, rfl, _, rfl, _, _, rfl, rfl, ⟨by decide, by decide⟩, by show 2 ≤ sizeLine; decide, q⟩
theorem scTick : FnScope ["self"] ["self"] (defScope sH_tick) := ⟨rfl, rfl, rfl, by decide +kernel, rfl, by decide +kernel, by decide +kernel⟩
theorem ok_tick (T : Tx K mg) : Ok P w K mg base 1 dH_tick ["self"] (spTick K) := by
  refine Ok.mk T 3 rfl ⟨rfl, rfl⟩ scTick (fun vs H Q E h => ?_) (fun _ _ _ _ _ _ us hl => match us, hl with | [_], _ => rfl) (fun cdv A outer s H vs Q E hr h => ?_)
  · obtain ⟨l, ow, a, i, S, rfl, _⟩ := h
    rfl
  · obtain ⟨l, ow, a, i, S, rfl, ⟨x, hh⟩, q⟩ := h
    refine ⟨_, pss_one (ps_ret (pe_fld (pv 0) rfl)), ?_⟩
    exact ⟨_, rfl, _, _, _, _, _, rfl, hh.ob, T.c_House, T.n_House_ticks, hf_ticks, q⟩
theorem scIsLast : FnScope ["self", "b"] ["self", "b"] (defScope sH_is_last) := ⟨rfl, rfl, rfl, by decide +kernel, rfl, by decide +kernel, by decide +kernel⟩
theorem ok_is_last (T : Tx K mg) : Ok P w K mg base 1 dH_is_last ["self", "b"] (spIsLast K) := by
  refine Ok.mk T 12 rfl ⟨rfl, rfl⟩ scIsLast (fun vs H Q E h => ?_) (fun _ _ _ _ _ _ us hl => match us, hl with | [_, _], _ => rfl) (fun cdv A outer s H vs Q E hr h => ?_)
  · obtain ⟨l, ow, a, i, S, v, t, rfl, _⟩ := h
    rfl
  · obtain ⟨l, ow, a, i, S, v, t, rfl, ⟨x, hh⟩, hv, q⟩ := h
    obtain ⟨c, rfl, hc⟩ := hv.th
    refine ⟨_, pss_one (ps_ret (pe_cmpR op_eq (pe_dget2 (hu_of hr) (pe_fld (pv 0) rfl) (pv 1) pe_int ⟨rfl, rfl, rfl, rfl⟩) pe_int (nomark _))), ?_⟩
    refine ⟨_, rfl, _, _, _, _, _, rfl, hh.ob, T.c_House, T.n_House_records, hf_records, _, rfl, .inr ⟨_, .inl hh.hr⟩, _, rfl, _, DGet.t (k := kP t) hh.hr hc, ?_⟩
    rw [emb_get kPi, getD_int]
    refine ⟨rfl, ?_⟩
    rw [decV]
    exact q
theorem scPart : FnScope ["self", "b", "share", "goes", "stays"] ["self", "b", "share"] (defScope sH_part) := ⟨rfl, rfl, rfl, by decide +kernel, rfl, by decide +kernel, by decide +kernel⟩
theorem ok_part (T : Tx K mg) : Ok P w K mg base 2 dH_part ["self", "b", "share"] (spPart K) := by
  obtain ⟨f1, F1, b1, k1⟩ := ok_need (P := P) (w := w) (base := base) T
  obtain ⟨f2, F2, b2, k2⟩ := ok_parted (P := P) (w := w) (base := base) T
  refine Ok.mk T 13 rfl ⟨rfl, rfl⟩ scPart (fun vs H Q E h => ?_) (fun _ _ _ _ _ _ us hl => match us, hl with | [_, _, _], _ => rfl) (fun cdv A outer s H vs Q E hr h => ?_)
  · obtain ⟨l, ow, a, i, S, v, t, n, rfl, _⟩ := h
    rfl
  · obtain ⟨l, ow, a, i, S, v, t, n, rfl, ⟨x, hh⟩, hcl, hg, hb, hv, q⟩ := h
    have hu := hu_of hr
    obtain ⟨c, rfl, hc⟩ := id hv.th
    refine ⟨_, pss_cons (ps_expr (pe_meth (pv 0) T.c_House T.m_House_need F1 hr b1 .nil (passC (takes_of rfl rfl rfl rfl)) (pa_cons (pv 1) pa_nil)))
      (pss_cons (ps_set (i := 3) scPart.nd rfl (.inl rfl) (pv 2))
      (pss_cons (ps_if (pt_cmpR op_eq (pe_ix ix_tup (pv 1) pe_int (fun _ _ => rfl)) (pe_fld (pv 0) rfl) (nomark _))
        (pss_one (ps_dput hu (pe_fld (pv 0) rfl) (pe_ix ix_tup (pv 1) pe_int (fun _ _ => rfl)) (pe_op op_add (pe_dget hu (pe_fld (pv 0) rfl) (pe_ix ix_tup (pv 1) pe_int (fun _ _ => rfl)) (fun _ _ => rfl)) (pv 2)) rfl))
        (pss_one (ps_if (pt_cmpR op_eq (pe_dget hu (pe_fld (pv 0) rfl) (pv 1) (fun _ _ => rfl)) pe_int (nomark _))
          (pss_one (ps_raise rfl (takes_of rfl rfl rfl rfl) (pmk_own PySem.F.excBase_ValueError T.e_NoWeight.1 T.g_NoWeight T.e_NoWeight.2.1 (raises_own T.e_NoWeight.2.2.1 T.e_NoWeight.2.2.2) rfl)))
          (pss_cons (ps_asg (pe_call F2 hr rfl T.g_parted k2 b2 .nil passL (pa_cons (pe_dget hu (pe_fld (pv 0) rfl) (pv 1) (fun _ _ => rfl)) pa_nil)) (pg_tup rfl (pgs_cons (pg_name (i := 4) scPart.nd rfl (.inl rfl)) (pgs_cons (pg_name (i := 3) scPart.nd rfl (.inl rfl)) pgs_nil))))
          (pss_one (ps_dput hu (pe_fld (pv 0) rfl) (pv 1) (pv 4) rfl))))))
      (pss_cons (ps_fld (pv 0) (pe_op op_add (pe_fld (pv 0) rfl) pe_int) rfl)
      (pss_one (ps_ret (pv 3)))))), ?_⟩
    unfold Hs.part at q
    refine ⟨_, rfl, _, _, _, rfl, hh.ob, hf_need, _, rfl, l, ow, a, i, S, x, _, t, rfl, hh, hv, fun h1 => ?_, fun h1 => ?_⟩
    · rw [if_pos h1] at q
      refine ⟨_, rfl, _, rfl, _, _, _, _, rfl, rfl, SqT.of hc, atI_nat (j := 0) rfl, _, rfl, _, _, _, _, _, rfl, hh.ob, T.c_House, T.n_House_number, hf_number, rfl, _, rfl, ?_⟩
      rw [decV]
      by_cases e : t.1 = i
      · rw [if_pos e] at q
        rw [decide_eq_true e]
        obtain ⟨o, eo⟩ := Fm.dget_some (show t.2 ∈ Fm.keys S.outs by rw [hg.ko]; exact hg.near _ h1 e)
        rw [eo] at q
        have g := DGet.k (k := Sum.inl t.2) hh.ho
        rw [emb_get inli, eo] at g
        refine iteT ⟨_, rfl, _, _, _, _, _, rfl, hh.ob, T.c_House, T.n_House_outs, hf_outs, _, rfl, _, _, _, _, rfl, rfl, SqT.of hc, atI_nat (j := 1) rfl, _, _, rfl, g, _, rfl, _, _, rfl, rfl, ?_⟩
        refine ⟨_, rfl, _, _, _, _, _, rfl, hh.ob, T.c_House, T.n_House_outs, hf_outs, _, rfl, _, _, _, _, rfl, rfl, SqT.of hc, atI_nat (j := 1) rfl, _, _, rfl, DPut.k (k := Sum.inl t.2) hh.ho (by rw [emb_length]; exact line_lt hb.ho), ?_⟩
        rw [emb_put inli]
        have h1' := hh.ho' (Fm.dput S.outs t.2 (o + n))
        have f1' : Frm (fun m => m = l) H ow _ ow := (Frm.refl).lab (o' := .dK (eI (Fm.dput S.outs t.2 (o + n)))) hh.ho (by intro xs z; cases z) hh.lo rfl
        refine ⟨_, rfl, _, _, _, _, _, rfl, h1'.ob, T.c_House, T.n_House_ticks, hf_ticks, _, _, rfl, rfl, _, rfl, _, _, _, _, rfl, h1'.ob, T.c_House, T.n_House_ticks, hf_len, ?_⟩
        rw [hf_set_ticks]
        exact ⟨_, rfl, q _ _ (f1'.lab hh.ob (by intro xs z; cases z) hh.la rfl) ⟨_, h1'.ob' S.made (S.ticks + 1)⟩⟩
      · rw [if_neg e] at q
        rw [decide_eq_false e]
        obtain ⟨o, eo⟩ := Fm.dget_some (hg.far _ h1 e)
        rw [eo] at q
        have g := DGet.t (k := kP t) hh.hr hc
        rw [emb_get kPi, eo] at g
        refine iteF ⟨_, rfl, _, _, _, _, _, rfl, hh.ob, T.c_House, T.n_House_records, hf_records, _, rfl, _, _, rfl, g, rfl, _, rfl, ?_⟩
        rw [decV]
        dsimp only [Option.getD_some] at q
        by_cases z : o = 0
        · rw [if_pos z] at q
          rw [decide_eq_true z]
          exact iteT q
        · rw [if_neg z] at q
          rw [decide_eq_false z]
          refine iteF ⟨_, rfl, _, _, _, _, _, rfl, hh.ob, T.c_House, T.n_House_records, hf_records, _, rfl, _, _, rfl, g, o, rfl, fun p np => ?_⟩
          have h2 := hh.new (o := .tup [.int (Fm.parted o).1, .int (Fm.parted o).2]) np
          have f2' : Frm (fun m => m = l) H ow _ ow := (Frm.refl).new (o := .tup [.int (Fm.parted o).1, .int (Fm.parted o).2]) np
          have hc2 := keepN (o := .tup [.int (Fm.parted o).1, .int (Fm.parted o).2]) hc np
          refine ⟨p, _, rfl, SqT.of upd_same, rfl, _, _, rfl, _, _, rfl, rfl, ?_⟩
          refine ⟨_, rfl, _, rfl, _, _, _, _, _, rfl, h2.ob, T.c_House, T.n_House_records, hf_records, _, rfl, _, _, rfl, DPut.t (k := kP t) h2.hr hc2 (by rw [emb_length]; exact line_lt hb.hr), ?_⟩
          rw [emb_put kPi]
          have h3 := h2.hr' (Fm.dput S.recs t (Fm.parted o).1)
          have f3 := f2'.lab (o' := .dT (eT (Fm.dput S.recs t (Fm.parted o).1))) hh.hr (by intro xs z; cases z) hh.lr rfl
          refine ⟨_, rfl, _, _, _, _, _, rfl, h3.ob, T.c_House, T.n_House_ticks, hf_ticks, _, _, rfl, rfl, _, rfl, _, _, _, _, rfl, h3.ob, T.c_House, T.n_House_ticks, hf_len, ?_⟩
          rw [hf_set_ticks]
          exact ⟨_, rfl, q _ _ (f3.lab hh.ob (by intro xs z; cases z) hh.la rfl) ⟨_, h3.ob' S.made (S.ticks + 1)⟩⟩
    · rw [if_neg h1] at q
      exact q
theorem scAdded : FnScope ["self", "b", "weight"] ["self", "b", "weight"] (defScope sH_added) := ⟨rfl, rfl, rfl, by decide +kernel, rfl, by decide +kernel, by decide +kernel⟩
theorem ok_added (T : Tx K mg) : Ok P w K mg base 1 dH_added ["self", "b", "weight"] (spCome K 1001 fun _ S => S.added) := by
  refine Ok.mk T 15 rfl ⟨rfl, rfl⟩ scAdded (fun vs H Q E h => ?_) (fun _ _ _ _ _ _ us hl => match us, hl with | [_, _, _], _ => rfl) (fun cdv A outer s H vs Q E hr h => ?_)
  · obtain ⟨l, ow, a, i, S, v, t, n, rfl, _⟩ := h
    rfl
  · obtain ⟨l, ow, a, i, S, v, t, n, rfl, ⟨x, hh⟩, hcl, hb1, hb2, hb3, hv, q⟩ := h
    have hu := hu_of hr
    obtain ⟨c, rfl, hc⟩ := hv.th
    refine ⟨_, pss_cons (ps_dput hu (pe_fld (pv 0) rfl) (pv 1) (pe_op op_add (pe_dget2 hu (pe_fld (pv 0) rfl) (pv 1) pe_int ⟨rfl, rfl, rfl, rfl⟩) (pv 2)) rfl)
      (pss_one (ps_fld (pv 0) (pe_op op_add (pe_fld (pv 0) rfl) pe_int) rfl)), ?_⟩
    refine ⟨_, rfl, _, _, _, _, _, rfl, hh.ob, T.c_House, T.n_House_records, hf_records, _, rfl, .inr ⟨_, .inl hh.hr⟩, _, rfl, _, DGet.t (k := kP t) hh.hr hc, ?_⟩
    rw [emb_get kPi, getD_int]
    refine ⟨_, rfl, _, _, rfl, rfl, _, rfl, _, _, _, _, _, rfl, hh.ob, T.c_House, T.n_House_records, hf_records, _, rfl, _, _, rfl, DPut.t (k := kP t) hh.hr hc (by rw [emb_length]; exact line_lt hb3), ?_⟩
    rw [emb_put kPi]
    have h1' := hh.hr' (Fm.dput S.recs t ((Fm.dget S.recs t).getD 0 + n))
    have f1' : Frm (fun m => m = l) H ow _ ow := (Frm.refl).lab (o' := .dT (eT (Fm.dput S.recs t ((Fm.dget S.recs t).getD 0 + n)))) hh.hr (by intro xs z; cases z) hh.lr rfl
    refine ⟨_, rfl, _, _, _, _, _, rfl, h1'.ob, T.c_House, T.n_House_ticks, hf_ticks, _, _, rfl, rfl, _, rfl, _, _, _, _, rfl, h1'.ob, T.c_House, T.n_House_ticks, hf_len, ?_⟩
    rw [hf_set_ticks]
    exact q _ _ (f1'.lab hh.ob (by intro xs z; cases z) hh.la rfl) ⟨_, h1'.ob' S.made (S.ticks + 1)⟩
theorem scGiven : FnScope ["self", "b", "weight"] ["self", "b", "weight"] (defScope sH_given) := ⟨rfl, rfl, rfl, by decide +kernel, rfl, by decide +kernel, by decide +kernel⟩
theorem ok_given (T : Tx K mg) : Ok P w K mg base 1 dH_given ["self", "b", "weight"] (spCome K 1001 fun _ S => S.given) := by
  refine Ok.mk T 16 rfl ⟨rfl, rfl⟩ scGiven (fun vs H Q E h => ?_) (fun _ _ _ _ _ _ us hl => match us, hl with | [_, _, _], _ => rfl) (fun cdv A outer s H vs Q E hr h => ?_)
  · obtain ⟨l, ow, a, i, S, v, t, n, rfl, _⟩ := h
    rfl
  · obtain ⟨l, ow, a, i, S, v, t, n, rfl, ⟨x, hh⟩, hcl, hb1, hb2, hb3, hv, q⟩ := h
    have hu := hu_of hr
    obtain ⟨c, rfl, hc⟩ := hv.th
    refine ⟨_, pss_cons (ps_if (pt_cmp (pc_din hu (pe_ix ix_tup (pv 1) pe_int (fun _ _ => rfl)) (pe_fld (pv 0) rfl)))
        (pss_one (ps_dput hu (pe_fld (pv 0) rfl) (pe_ix ix_tup (pv 1) pe_int (fun _ _ => rfl)) (pe_op op_sub (pe_dget hu (pe_fld (pv 0) rfl) (pe_ix ix_tup (pv 1) pe_int (fun _ _ => rfl)) (fun _ _ => rfl)) (pv 2)) rfl)) pss_nil)
      (pss_one (ps_fld (pv 0) (pe_op op_add (pe_fld (pv 0) rfl) pe_int) rfl)), ?_⟩
    have g := DGet.k (k := Sum.inl t.2) hh.ho
    rw [emb_get inli] at g
    refine ⟨_, rfl, _, _, _, _, rfl, rfl, SqT.of hc, atI_nat (j := 1) rfl, _, rfl, _, _, _, _, _, rfl, hh.ob, T.c_House, T.n_House_outs, hf_outs, _, _, rfl, g, _, rfl, ?_⟩
    unfold Hs.given at q
    dsimp only at q
    cases eo : Fm.dget S.outs t.2 with
    | none =>
      rw [eo, if_neg (by simp)] at q
      refine iteF ?_
      refine ⟨_, rfl, _, _, _, _, _, rfl, hh.ob, T.c_House, T.n_House_ticks, hf_ticks, _, _, rfl, rfl, _, rfl, _, _, _, _, rfl, hh.ob, T.c_House, T.n_House_ticks, hf_len, ?_⟩
      rw [hf_set_ticks]
      exact q _ _ ((Frm.refl).lab hh.ob (by intro xs z; cases z) hh.la rfl) ⟨_, hh.ob' S.made (S.ticks + 1)⟩
    | some o =>
      rw [eo, if_pos (show (some o).isSome = true from rfl)] at q
      rw [eo] at g
      refine iteT ⟨_, rfl, _, _, _, _, _, rfl, hh.ob, T.c_House, T.n_House_outs, hf_outs, _, rfl, _, _, _, _, rfl, rfl, SqT.of hc, atI_nat (j := 1) rfl, _, _, rfl, g, _, rfl, _, _, rfl, rfl, ?_⟩
      refine ⟨_, rfl, _, _, _, _, _, rfl, hh.ob, T.c_House, T.n_House_outs, hf_outs, _, rfl, _, _, _, _, rfl, rfl, SqT.of hc, atI_nat (j := 1) rfl, _, _, rfl, DPut.k (k := Sum.inl t.2) hh.ho (by rw [emb_length]; exact line_lt hb2), ?_⟩
      rw [emb_put inli]
      have h1' := hh.ho' (Fm.dput S.outs t.2 (o - n))
      have f1' : Frm (fun m => m = l) H ow _ ow := (Frm.refl).lab (o' := .dK (eI (Fm.dput S.outs t.2 (o - n)))) hh.ho (by intro xs z; cases z) hh.lo rfl
      refine ⟨_, rfl, _, _, _, _, _, rfl, h1'.ob, T.c_House, T.n_House_ticks, hf_ticks, _, _, rfl, rfl, _, rfl, _, _, _, _, rfl, h1'.ob, T.c_House, T.n_House_ticks, hf_len, ?_⟩
      rw [hf_set_ticks]
      exact q _ _ (f1'.lab hh.ob (by intro xs z; cases z) hh.la rfl) ⟨_, h1'.ob' S.made (S.ticks + 1)⟩
end
end Fh

set_option Elab.async false
set_option linter.all false
set_option maxRecDepth 100000
set_option maxHeartbeats 4000000
namespace Fh
open PySem PySem.Spec L2 FhR
open Fm (Th Hs StD Wd Er HG HB)
def spGone (K : PySem.W.Frag) : Sp := fun vs H Q _ => ∃ (l : Lab) (ow : Ow) (a : Addr) (i : Int) (S : Hs) (x : HAd) (n : Int), vs = [.ref a, .int n] ∧ HIs (hC K) l H ow a i S x ∧ n ∈ Fm.keys S.holding ∧ n ∈ Fm.keys S.outs ∧
  ∀ H', Frm (fun m => m = l) H ow H' ow → HIs (hC K) l H' ow a i { S with holding := Fm.ddrop S.holding n, outs := Fm.ddrop S.outs n } { x with ia := Fm.ddrop x.ia n } → (∀ b o, H b = some o → b ≠ x.hg → b ≠ x.ho → H' b = some o) → Q .non H'
section
variable {P : Program} {w : World} {K : PySem.W.Frag} {mg : Str → Option Value} {base : Heap}
theorem scCame : FnScope ["self", "b", "weight"] ["self", "b", "weight"] (defScope sH_came) := ⟨rfl, rfl, rfl, by decide +kernel, rfl, by decide +kernel, by decide +kernel⟩
theorem ok_came (T : Tx K mg) : Ok P w K mg base 2 dH_came ["self", "b", "weight"] (spCome K 1000 fun i S => S.came i) := by
  obtain ⟨f1, F1, b1, k1⟩ := ok_given (P := P) (w := w) (base := base) T
  obtain ⟨f2, F2, b2, k2⟩ := ok_added (P := P) (w := w) (base := base) T
  refine Ok.mk T 14 rfl ⟨rfl, rfl⟩ scCame (fun vs H Q E h => ?_) (fun _ _ _ _ _ _ us hl => match us, hl with | [_, _, _], _ => rfl) (fun cdv A outer s H vs Q E hr h => ?_)
  · obtain ⟨l, ow, a, i, S, v, t, n, rfl, _⟩ := h
    rfl
  · obtain ⟨l, ow, a, i, S, v, t, n, rfl, ⟨x, hh⟩, hcl, hb1, hb2, hb3, hv, q⟩ := h
    have hu := hu_of hr
    obtain ⟨c, rfl, hc⟩ := id hv.th
    refine ⟨_, pss_cons (ps_dput hu (pe_fld (pv 0) rfl) (pv 1) pe_bl rfl)
      (pss_one (ps_if (pt_cmpR op_eq (pe_ix ix_tup (pv 1) pe_int (fun _ _ => rfl)) (pe_fld (pv 0) rfl) (nomark _))
        (pss_one (ps_expr (pe_meth (pv 0) T.c_House T.m_House_given F1 hr b1 .nil passL (pa_cons (pv 1) (pa_cons (pv 2) pa_nil)))))
        (pss_one (ps_expr (pe_meth (pv 0) T.c_House T.m_House_added F2 hr b2 .nil passL (pa_cons (pv 1) (pa_cons (pv 2) pa_nil))))))), ?_⟩
    refine ⟨_, rfl, _, _, _, _, _, rfl, hh.ob, T.c_House, T.n_House_hand, hf_hand, _, rfl, _, _, rfl, DPut.t (k := kP t) hh.hd hc (by rw [hE_length]; exact line_lt hb1), ?_⟩
    rw [hE_put]
    have h1 := hh.hd' (Fm.hput S.hand t)
    have f1' : Frm (fun m => m = l) H ow _ ow := (Frm.refl).lab (o' := .dT (hE (Fm.hput S.hand t))) hh.hd (by intro xs z; cases z) hh.ld rfl
    have hc1 := keepD (o := .dT (hE (Fm.hput S.hand t))) hc hh.hd (by intro z; cases z)
    have hv1 := hv.mono f1'.tup
    refine ⟨_, rfl, _, _, _, _, rfl, rfl, SqT.of hc1, atI_nat (j := 0) rfl, _, rfl, _, _, _, _, _, rfl, h1.ob, T.c_House, T.n_House_number, hf_number, rfl, _, rfl, ?_⟩
    rw [decV]
    unfold Hs.came at q
    dsimp only at q
    have hbl : (Fm.hput S.hand t).length ≤ 1001 := Nat.le_trans (Fm.hput_len _ _) (by omega)
    by_cases e : t.1 = i
    · rw [if_pos e] at q
      rw [decide_eq_true e]
      refine iteT ⟨_, rfl, _, _, _, rfl, h1.ob, hf_given, _, rfl, _, rfl, l, ow, a, i, { S with hand := Fm.hput S.hand t }, _, t, n, rfl, ⟨_, h1⟩, f1'.cl hcl, hbl, hb2, hb3, hv1, fun H' ow' f2' h2 => q _ _ (f1'.trans f2') h2⟩
    · rw [if_neg e] at q
      rw [decide_eq_false e]
      refine iteF ⟨_, rfl, _, _, _, rfl, h1.ob, hf_added, _, rfl, _, rfl, l, ow, a, i, { S with hand := Fm.hput S.hand t }, _, t, n, rfl, ⟨_, h1⟩, f1'.cl hcl, hbl, hb2, hb3, hv1, fun H' ow' f2' h2 => q _ _ (f1'.trans f2') h2⟩
theorem scPassed : FnScope ["self", "b", "share", "mine", "out"] ["self", "b", "share", "mine"] (defScope sH_passed) := ⟨rfl, rfl, rfl, by decide +kernel, rfl, by decide +kernel, by decide +kernel⟩
theorem ok_hpassed (T : Tx K mg) : Ok P w K mg base 1 dH_passed ["self", "b", "share", "mine"] (spPassed K) := by
  refine Ok.mk T 17 rfl ⟨rfl, rfl⟩ scPassed (fun vs H Q E h => ?_) (fun _ _ _ _ _ _ us hl => match us, hl with | [_, _, _, _], _ => rfl) (fun cdv A outer s H vs Q E hr h => ?_)
  · obtain ⟨l, ow, a, i, S, v, t, n, m, rfl, _⟩ := h
    rfl
  · obtain ⟨l, ow, a, i, S, v, t, n, m, rfl, ⟨x, hh⟩, hcl, hb, hv, hk, q⟩ := h
    have hu := hu_of hr
    obtain ⟨c, rfl, hc⟩ := id hv.th
    obtain ⟨o, eo⟩ := Fm.dget_some hk
    have g := DGet.k (k := Sum.inl t.2) hh.ho
    rw [emb_get inli, eo] at g
    refine ⟨_, pss_cons (ps_set (i := 4) scPassed.nd rfl (.inl rfl) (pe_op op_add (pe_op op_sub (pe_dget hu (pe_fld (pv 0) rfl) (pe_ix ix_tup (pv 1) pe_int (fun _ _ => rfl)) (fun _ _ => rfl)) pe_int) (pv 2)))
      (pss_cons (ps_if (pt_val (pv 3)) (pss_one (ps_dput hu (pe_fld (pv 0) rfl) (pv 1) pe_bl rfl)) (pss_one (ps_set (i := 4) scPassed.nd rfl (.inl rfl) (pe_op op_add (pv 4) (pv 2)))))
      (pss_cons (ps_dput hu (pe_fld (pv 0) rfl) (pe_ix ix_tup (pv 1) pe_int (fun _ _ => rfl)) (pv 4) rfl)
      (pss_one (ps_fld (pv 0) (pe_op op_add (pe_fld (pv 0) rfl) pe_int) rfl)))), ?_⟩
    refine ⟨_, rfl, _, _, _, _, _, rfl, hh.ob, T.c_House, T.n_House_outs, hf_outs, _, rfl, _, _, _, _, rfl, rfl, SqT.of hc, atI_nat (j := 1) rfl, _, _, rfl, g, _, _, rfl, rfl, _, rfl, _, _, rfl, rfl, _, rfl, m, rfl, ?_⟩
    unfold Hs.passed at q
    rw [eo] at q
    dsimp only [Option.getD_some] at q
    cases m with
    | true =>
      rw [if_pos rfl] at q
      refine iteT ⟨_, rfl, _, _, _, _, _, rfl, hh.ob, T.c_House, T.n_House_hand, hf_hand, _, rfl, _, _, rfl, DPut.t (k := kP t) hh.hd hc (by rw [hE_length]; exact line_lt hb.hd), ?_⟩
      rw [hE_put]
      have h1 := hh.hd' (Fm.hput S.hand t)
      have f1 : Frm (fun m => m = l) H ow _ ow := (Frm.refl).lab (o' := .dT (hE (Fm.hput S.hand t))) hh.hd (by intro xs z; cases z) hh.ld rfl
      have hc1 := keepD (o := .dT (hE (Fm.hput S.hand t))) hc hh.hd (by intro z; cases z)
      refine ⟨_, rfl, _, rfl, _, _, _, _, _, rfl, h1.ob, T.c_House, T.n_House_outs, hf_outs, _, rfl, _, _, _, _, rfl, rfl, SqT.of hc1, atI_nat (j := 1) rfl, _, _, rfl, DPut.k (k := Sum.inl t.2) h1.ho (by rw [emb_length]; exact line_lt hb.ho), ?_⟩
      rw [emb_put inli]
      have h2 := h1.ho' (Fm.dput S.outs t.2 (o - 1 + n))
      have f2 := f1.lab (o' := .dK (eI (Fm.dput S.outs t.2 (o - 1 + n)))) hh.ho (by intro xs z; cases z) hh.lo rfl
      refine ⟨_, rfl, _, _, _, _, _, rfl, h2.ob, T.c_House, T.n_House_ticks, hf_ticks, _, _, rfl, rfl, _, rfl, _, _, _, _, rfl, h2.ob, T.c_House, T.n_House_ticks, hf_len, ?_⟩
      rw [hf_set_ticks]
      exact q _ _ (f2.lab hh.ob (by intro xs z; cases z) hh.la rfl) ⟨_, h2.ob' S.made (S.ticks + 1)⟩
    | false =>
      rw [if_neg (by decide)] at q
      refine iteF ⟨_, rfl, _, rfl, _, _, rfl, rfl, ?_⟩
      refine ⟨_, rfl, _, rfl, _, _, _, _, _, rfl, hh.ob, T.c_House, T.n_House_outs, hf_outs, _, rfl, _, _, _, _, rfl, rfl, SqT.of hc, atI_nat (j := 1) rfl, _, _, rfl, DPut.k (k := Sum.inl t.2) hh.ho (by rw [emb_length]; exact line_lt hb.ho), ?_⟩
      rw [emb_put inli]
      have h2 := hh.ho' (Fm.dput S.outs t.2 (o - 1 + n + n))
      have f2 : Frm (fun m => m = l) H ow _ ow := (Frm.refl).lab (o' := .dK (eI (Fm.dput S.outs t.2 (o - 1 + n + n)))) hh.ho (by intro xs z; cases z) hh.lo rfl
      refine ⟨_, rfl, _, _, _, _, _, rfl, h2.ob, T.c_House, T.n_House_ticks, hf_ticks, _, _, rfl, rfl, _, rfl, _, _, _, _, rfl, h2.ob, T.c_House, T.n_House_ticks, hf_len, ?_⟩
      rw [hf_set_ticks]
      exact q _ _ (f2.lab hh.ob (by intro xs z; cases z) hh.la rfl) ⟨_, h2.ob' S.made (S.ticks + 1)⟩
theorem scGone : FnScope ["self", "number"] ["self", "number"] (defScope sH_gone) := ⟨rfl, rfl, rfl, by decide +kernel, rfl, by decide +kernel, by decide +kernel⟩
theorem ok_gone (T : Tx K mg) : Ok P w K mg base 1 dH_gone ["self", "number"] (spGone K) := by
  refine Ok.mk T 18 rfl ⟨rfl, rfl⟩ scGone (fun vs H Q E h => ?_) (fun _ _ _ _ _ _ us hl => match us, hl with | [_, _], _ => rfl) (fun cdv A outer s H vs Q E hr h => ?_)
  · obtain ⟨l, ow, a, i, S, x, n, rfl, _⟩ := h
    rfl
  · obtain ⟨l, ow, a, i, S, x, n, rfl, hh, hk1, hk2, q⟩ := h
    obtain ⟨p, ep⟩ := Fm.dget_some (show n ∈ Fm.keys x.ia by rw [hh.keys]; exact hk1)
    obtain ⟨o, eo⟩ := Fm.dget_some hk2
    refine ⟨_, pss_cons (ps_expr (pe_dpop1 (pe_fld (pv 0) rfl) (pv 1) ⟨rfl, rfl, rfl, rfl⟩)) (pss_one (ps_expr (pe_dpop1 (pe_fld (pv 0) rfl) (pv 1) ⟨rfl, rfl, rfl, rfl⟩))), ?_⟩
    refine ⟨_, rfl, _, _, _, _, _, rfl, hh.ob, T.c_House, T.n_House_holding, hf_holding, _, rfl, .inl ⟨_, .inl hh.hg⟩, _, rfl, _, Sum.inl n, .ref p, hh.hg, rfl, by rw [emb_get inli, ep]; rfl, ?_⟩
    rw [emb_drop inli]
    have h1 := hh.cut fun k => decide (k ≠ n)
    have f1 : Frm (fun m => m = l) H ow _ ow := (Frm.refl).lab (o' := .dK (eA (Fm.ddrop x.ia n))) hh.hg (by intro xs z; cases z) hh.lg rfl
    refine ⟨_, rfl, _, _, _, _, _, rfl, h1.ob, T.c_House, T.n_House_outs, hf_outs, _, rfl, .inl ⟨_, .inl h1.ho⟩, _, rfl, _, Sum.inl n, .int o, h1.ho, rfl, by rw [emb_get inli, eo]; rfl, ?_⟩
    rw [emb_drop inli]
    have h2 := h1.ho' (Fm.ddrop S.outs n)
    refine q _ (f1.lab hh.ho (by intro xs z; cases z) hh.lo rfl) h2 fun b u e n1 n2 => ?_
    rw [upd_ne n2, upd_ne n1]
    exact e
theorem hf_init (i : Int) (hd hg ho hr : Addr) : putF "records" (.ref hr) (putF "outs" (.ref ho) (putF "holding" (.ref hg) (putF "hand" (.ref hd) (putF "ticks" (.int 0) (putF "made" (.int 0) (putF "number" (.int i) [])))))) = hf i 0 0 hd hg ho hr := by kernel_rfl
theorem scHouse : FnScope ["self", "number"] ["self", "number"] (defScope sH_init) := ⟨rfl, rfl, rfl, by decide +kernel, rfl, by decide +kernel, by decide +kernel⟩
theorem ok_House (T : Tx K mg) : Ok P w K mg base 1 dH_init ["self", "number"] (spHouse K) := by
  refine Ok.mk T 2 rfl ⟨rfl, rfl⟩ scHouse (fun vs H Q E h => ?_) (fun _ _ _ _ _ _ us hl => match us, hl with | [_, _], _ => rfl) (fun cdv A outer s H vs Q E hr h => ?_)
  · obtain ⟨l, ow, a, dx, i, rfl, _⟩ := h
    rfl
  · obtain ⟨l, ow, a, dx, i, rfl, hh, hla, hcl, q⟩ := h
    refine ⟨_, pss_cons (ps_fld (pv 0) (pv 1) rfl) (pss_cons (ps_fld (pv 0) pe_int rfl) (pss_cons (ps_fld (pv 0) pe_int rfl) (pss_cons (ps_fld (pv 0) pe_dnewT rfl) (pss_cons (ps_fld (pv 0) pe_dnewK rfl) (pss_cons (ps_fld (pv 0) pe_dnewK rfl) (pss_one (ps_fld (pv 0) pe_dnewT rfl))))))), ?_⟩
    have ln : ∀ (f : Str) (v : V) (fs : List (Str × V)), (putF f v fs).length ≤ fs.length + 1 := length_putF
    -- number, made, ticks
    refine ⟨_, rfl, _, rfl, _, _, _, _, rfl, hh, T.c_House, T.n_House_number, (by show 0 < 1000; decide), ?_⟩
    refine ⟨_, rfl, _, _, _, _, rfl, upd_same, T.c_House, T.n_House_made, (by show 1 < 1000; decide), ?_⟩
    rw [upd_upd]
    refine ⟨_, rfl, _, _, _, _, rfl, upd_same, T.c_House, T.n_House_ticks, (by show 2 < 1000; decide), ?_⟩
    rw [upd_upd]
    intro p1 n1
    have na1 : a ≠ p1 := ne_of_none upd_same n1
    refine ⟨_, rfl, _, _, _, _, rfl, by rw [upd_ne na1]; exact upd_same, T.c_House, T.n_House_hand, (by show 3 < 1000; decide), ?_⟩
    intro p2 n2
    have na2 : a ≠ p2 := ne_of_none upd_same n2
    refine ⟨_, rfl, _, _, _, _, rfl, by rw [upd_ne na2]; exact upd_same, T.c_House, T.n_House_holding, (by show 4 < 1000; decide), ?_⟩
    intro p3 n3
    have na3 : a ≠ p3 := ne_of_none upd_same n3
    refine ⟨_, rfl, _, _, _, _, rfl, by rw [upd_ne na3]; exact upd_same, T.c_House, T.n_House_outs, (by show 5 < 1000; decide), ?_⟩
    intro p4 n4
    have na4 : a ≠ p4 := ne_of_none upd_same n4
    refine ⟨_, rfl, _, _, _, _, rfl, by rw [upd_ne na4]; exact upd_same, T.c_House, T.n_House_records, (by show 6 < 1000; decide), ?_⟩
    rw [hf_init]
    have n2' := n2
    rw [upd_ne na2.symm] at n2'
    have n12 : p2 ≠ p1 := fun z => by rw [z, upd_same] at n2'; cases n2'
    have n3' := n3
    rw [upd_ne na3.symm] at n3'
    have n23 : p3 ≠ p2 := fun z => by rw [z, upd_same] at n3'; cases n3'
    rw [upd_ne n23, upd_ne na3.symm] at n3'
    have n13 : p3 ≠ p1 := fun z => by rw [z, upd_same] at n3'; cases n3'
    have n4' := n4
    rw [upd_ne na4.symm] at n4'
    have n34 : p4 ≠ p3 := fun z => by rw [z, upd_same] at n4'; cases n4'
    rw [upd_ne n34, upd_ne na4.symm] at n4'
    have n24 : p4 ≠ p2 := fun z => by rw [z, upd_same] at n4'; cases n4'
    rw [upd_ne n24, upd_ne na4.symm] at n4'
    have n14 : p4 ≠ p1 := fun z => by rw [z, upd_same] at n4'; cases n4'
    have f0 : Frm (fun m => m = l) H ow H ow := Frm.refl
    have nt : ∀ xs, HO.ins (hC K) dx [] ≠ .tup xs := fun xs z => by cases z
    have f1 := ((f0.lab (o' := .ins (hC K) dx (putF "ticks" (.int 0) (putF "made" (.int 0) (putF "number" (.int i) [])))) hh nt hla rfl).new (o := .dT []) n1).label (l := l) (by rw [upd_ne na1.symm] at n1; exact n1) ⟨_, upd_same⟩
    have f2 := ((f1.lab (o' := .ins (hC K) dx (putF "hand" (.ref p1) (putF "ticks" (.int 0) (putF "made" (.int 0) (putF "number" (.int i) []))))) hh nt hla rfl).new (o := .dK []) n2).label (l := l) (f0.none_back (by rw [upd_ne na2.symm, upd_ne n12, upd_ne na2.symm] at n2; exact n2)) ⟨_, upd_same⟩
    have f3 := ((f2.lab (o' := .ins (hC K) dx (putF "holding" (.ref p2) (putF "hand" (.ref p1) (putF "ticks" (.int 0) (putF "made" (.int 0) (putF "number" (.int i) [])))))) hh nt hla rfl).new (o := .dK []) n3).label (l := l) (by rw [upd_ne n13, upd_ne na3.symm] at n3'; exact n3') ⟨_, upd_same⟩
    have f4 := ((f3.lab (o' := .ins (hC K) dx (putF "outs" (.ref p3) (putF "holding" (.ref p2) (putF "hand" (.ref p1) (putF "ticks" (.int 0) (putF "made" (.int 0) (putF "number" (.int i) []))))))) hh nt hla rfl).new (o := .dT []) n4).label (l := l) (by rw [upd_ne n14, upd_ne na4.symm] at n4'; exact n4') ⟨_, upd_same⟩
    have f5 := f4.lab (o' := .ins (hC K) dx (hf i 0 0 p1 p2 p3 p4)) hh nt hla rfl
    refine q _ _ f5 ⟨⟨dx, p1, p2, p3, p4, []⟩, ⟨upd_same, ?_, ?_, ?_, ?_, .nil, ?_, ?_, ?_, ?_, ?_, n14.symm, n23.symm, (fun p hp => nomatch hp), .nil⟩⟩
    · show upd _ a _ p1 = some (.dT [])
      rw [upd_ne na1.symm, upd_ne n14.symm, upd_ne na1.symm, upd_ne n13.symm, upd_ne na1.symm, upd_ne n12.symm, upd_ne na1.symm]
      exact upd_same
    · show upd _ a _ p2 = some (.dK [])
      rw [upd_ne na2.symm, upd_ne n24.symm, upd_ne na2.symm, upd_ne n23.symm, upd_ne na2.symm]
      exact upd_same
    · show upd _ a _ p3 = some (.dK [])
      rw [upd_ne na3.symm, upd_ne n34.symm, upd_ne na3.symm]
      exact upd_same
    · show upd _ a _ p4 = some (.dT [])
      rw [upd_ne na4.symm]
      exact upd_same
    · rw [setO_ne na4, setO_ne na3, setO_ne na2, setO_ne na1]
      exact hla
    · show setO (setO (setO (setO ow p1 l) p2 l) p3 l) p4 l p1 = some l
      rw [setO_ne n14.symm, setO_ne n13.symm, setO_ne n12.symm]
      exact setO_same
    · show setO (setO (setO (setO ow p1 l) p2 l) p3 l) p4 l p2 = some l
      rw [setO_ne n24.symm, setO_ne n23.symm]
      exact setO_same
    · show setO (setO (setO (setO ow p1 l) p2 l) p3 l) p4 l p3 = some l
      rw [setO_ne n34.symm]
      exact setO_same
    · exact setO_same
end
end Fh

set_option Elab.async false
set_option linter.all false
set_option maxRecDepth 100000
set_option maxHeartbeats 4000000
namespace Fh
open PySem PySem.Spec L2 FhR
open Fm (Th Hs StD Wd Er HG HB)
/-! ### lists against the empty one -/
theorem eqv_nil (ds : List PyData) : PyData.eqv (.list ds) (.list []) = ds.isEmpty := by
  cases ds <;> simp [PyData.eqv, PyData.eqvAll]
theorem shaped_list {ds : List PyData} (h : ∀ d ∈ ds, d.canLay0 = true ∧ d.depth ≤ 60) : SeqAt.shaped (.list ds) = true := by
  have h1 : PyData.canLayAll0 ds = true ∧ PyData.depthAll ds ≤ 60 := by
    induction ds with
    | nil => exact ⟨by simp [PyData.canLayAll0], by simp [PyData.depthAll]⟩
    | cons d r ih =>
      obtain ⟨a, b⟩ := ih fun x hx => h x (List.mem_cons_of_mem _ hx)
      obtain ⟨c, e⟩ := h d List.mem_cons_self
      exact ⟨by simp [PyData.canLayAll0, a, c], by simp only [PyData.depthAll]; omega⟩
  unfold SeqAt.shaped
  rw [Bool.and_eq_true]
  exact ⟨by simp [PyData.canLay0, h1.1], decide_eq_true (by simp only [PyData.depth]; omega)⟩
theorem shaped_nil : SeqAt.shaped (.list []) = true := shaped_list fun d h => nomatch h
theorem dpAll_ints {K : PySem.W.Frag} {H : Hp} : ∀ l : List Int, DpAll K H (l.map V.int) (l.map PyData.int)
  | [] => .nil
  | _ :: l => .cons (.int _) (dpAll_ints l)
/-! ### dicts of numbers to True -/
def gE (l : List Int) : List (Key × V) := l.map fun n => (Sum.inl n, V.bl true)
theorem gE_get (l : List Int) (t : Int) : valV (gE l) (Sum.inl t) = if t ∈ l then some (.bl true) else none := by
  induction l with
  | nil => rfl
  | cons a r ih =>
    by_cases h : a = t
    · rw [if_pos (by rw [h]; exact List.mem_cons_self)]
      exact valV_pos (p := ((Sum.inl a : Key), V.bl true)) (by rw [h])
    · have e : valV (gE (a :: r)) (Sum.inl t) = valV (gE r) (Sum.inl t) := valV_neg (p := ((Sum.inl a : Key), V.bl true)) fun z => h (inli _ _ z)
      rw [e, ih]
      by_cases q : t ∈ r
      · rw [if_pos q, if_pos (List.mem_cons_of_mem _ q)]
      · rw [if_neg q, if_neg (by simp [q, Ne.symm h])]
theorem gE_put {l : List Int} {t : Int} (h : t ∉ l) : putK (gE l) (Sum.inl t) (.bl true) = gE (l ++ [t]) := by
  rw [putK_new _ (by rw [gE_get, if_neg h])]
  unfold gE
  rw [List.map_append]
  rfl
theorem gE_length (l : List Int) : (gE l).length = l.length := List.length_map ..
/-- a locked dict is unlocked behind a new list -/
theorem unlocked {H : Hp} {d D : Addr} {u f o : HO} (h : H d = some u) (n : D ≠ d) : upd (upd (upd H d f) D o) d u = upd H D o := by
  funext b
  unfold upd
  by_cases hb : b = d
  · rw [if_pos hb, if_neg (fun z => n (z.symm.trans hb)), hb]
    exact h.symm
  · rw [if_neg hb, if_neg hb]
theorem take_succ_at {α : Type} {l : List α} {i : Nat} {x : α} (h : l[i]? = some x) : l.take (i + 1) = l.take i ++ [x] := by
  rw [List.take_succ, h]
  rfl
/-- the dicts of what things hold -/
abbrev Inn (H : Hp) (ia : List (Int × Addr)) (hs : List (Int × List Th)) : Prop := Paired (fun (p : Int × Addr) (q : Int × List Th) => p.1 = q.1 ∧ H p.2 = some (.dT (hE q.2))) ia hs
theorem Inn.at_ {H : Hp} {n : Int} {ts : List Th} : ∀ {ia : List (Int × Addr)} {hs : List (Int × List Th)}, Inn H ia hs → Fm.dget hs n = some ts → ∃ p, Fm.dget ia n = some p ∧ H p = some (.dT (hE ts))
  | _, _, .nil, e => by cases e
  | _, _, .cons h0 r, e => by
    rw [Fm.dget_cons] at e ⊢
    rw [h0.1]
    split at e
    · rename_i q
      cases e
      exact ⟨_, if_pos q, h0.2⟩
    · rename_i q
      rw [if_neg q]
      exact Inn.at_ r e
theorem Inn.mono {H H' : Hp} (s : Same H H') : ∀ {ia : List (Int × Addr)} {hs : List (Int × List Th)}, Inn H ia hs → Inn H' ia hs
  | _, _, .nil => .nil
  | _, _, .cons h0 r => .cons ⟨h0.1, s _ _ h0.2⟩ (Inn.mono s r)
theorem HIs.inns {C a : Addr} {l : Lab} {H : Hp} {ow : Ow} {i : Int} {S : Hs} {x : HAd} (h : HIs C l H ow a i S x) : Inn H x.ia S.holding := paired_imp h.inn fun _ _ _ _ z => ⟨z.1, z.2.1⟩
theorem same_new {H : Hp} {p : Addr} {o : HO} (n : H p = none) : Same H (upd H p o) := fun b u e => by
  rw [upd_ne (ne_of_none e n)]
  exact e
/-- a new object is changed -/
theorem same_put {H0 H : Hp} {p : Addr} {o : HO} (s : Same H0 H) (n : H0 p = none) : Same H0 (upd H p o) := fun b u e => by
  rw [upd_ne (ne_of_none e n)]
  exact s b u e
def spNear : Sp := fun vs H Q _ => ∃ (ps hg : Addr) (starts : List Int) (ia : List (Int × Addr)) (hd : List (Int × List Th)) (i : Int), vs = [.ref ps, .ref hg, .int i] ∧ H ps = some (.lst (starts.map V.int)) ∧ H hg = some (.dK (eA ia)) ∧ Inn H ia hd ∧
  starts.length + Fm.edges hd ≤ 8000000 ∧ (∀ n ∈ starts, n ∈ Fm.keys hd) ∧ (∀ e ∈ hd, ∀ t ∈ e.2, t.1 = i → t.2 ∈ Fm.keys hd) ∧
  ∀ H' r, Same H H' → H r = none → H' r = some (.dK (gE (Fm.nearReach starts hd i))) → Q (.ref r) H'
section
variable {P : Program} {w : World} {K : PySem.W.Frag} {mg : Str → Option Value} {base : Heap}
theorem scNear : FnScope ["starts", "holding", "house", "reached", "left", "number", "thing"] ["starts", "holding", "house"] (defScope s_near_reach) := ⟨rfl, rfl, rfl, by decide +kernel, rfl, by decide +kernel, by decide +kernel⟩
theorem ok_near (T : Tx K mg) : Ok P w K mg base 1 d_near_reach ["starts", "holding", "house"] spNear := by
  refine Ok.mk T 1 rfl ⟨rfl, rfl⟩ scNear (fun vs H Q E h => ?_) (fun _ _ _ _ _ _ us hl => match us, hl with | [_, _, _], _ => rfl) (fun cdv A outer s H vs Q E hr h => ?_)
  · obtain ⟨ps, hg, starts, ia, hd, i, rfl, _⟩ := h
    rfl
  · obtain ⟨ps, hg, starts, ia, hd, i, rfl, hps, hhg, hin, hz, hs1, hs2, q⟩ := h
    have hu := hu_of hr
    refine ⟨_, pss_cons (ps_set (i := 3) scNear.nd rfl (.inl rfl) pe_dnewK)
      (pss_cons (ps_set (i := 4) scNear.nd rfl (.inl rfl) (pe_callTy call_list_of rfl T.f_list PyProof.Rows.boot_list (pa_cons (pv 0) pa_nil)))
      (pss_cons (ps_while (passes_of rfl) (pt_cmpR (op_neD hr.units) (pv 4) (pe_lst pa_nil) (nomark _))
        (pss_cons (ps_set (i := 5) scNear.nd rfl (.inl rfl) (pe_bm0 PySem.F.plainAttrs_list PySem.F.slot_list_pop PySem.F.type_list_pop mt_pop (pv 4)))
        (pss_one (ps_if (pt_cmp (pc_dnotin hu (pv 5) (pv 3)))
          (pss_cons (ps_dput hu (pv 3) (pv 5) pe_bl rfl)
          (pss_one (ps_expr (pe_bm PySem.F.plainAttrs_list PySem.F.slot_list_extend PySem.F.type_list_extend mt_extend (pv 4)
            (pa_cons (pe_lock (pe_lc (own := [("thing", 6)]) (g := gName 6) (tt := tTest (tOp rEq (tOp (rIxT K) (tVar 6) (tC (.int 0))) (tVar 2))) (te := tOp (rIxT K) (tVar 6) (tC (.int 1))) rfl scNear.nd (pi_keys (pe_dget hu (pv 1) (pv 5) (fun _ _ => rfl)))
              (blkOk_by (own := [("thing", 6)]) (N := ["starts", "holding", "house", "reached", "left", "number", "thing"]) (sc := defScope s_near_reach) (by decide +kernel))
              (fun _ _ _ _ _ => pg_name (i := 6) scNear.nd rfl (.inl rfl)) (fun _ _ _ _ _ => pts_one (pt_cmpR op_eq (pe_ix ix_tup (pv 6) pe_int (fun _ _ => rfl)) (pv 2) (nomark _))) (fun _ _ _ _ _ => pe_ix ix_tup (pv 6) pe_int (fun _ _ => rfl)))) pa_nil))))) pss_nil))))
      (pss_one (ps_ret (pv 3))))), ?_⟩
    intro pr nr
    have s1 := same_new (o := .dK []) nr
    refine ⟨_, rfl, ps, _, rfl, .inl (SqL.of (s1 _ _ hps)), fun pl nl => ?_⟩
    have s2 := s1.trans (same_new (o := .lst (starts.map V.int)) nl)
    have hrp : upd (upd H pr (.dK [])) pl (.lst (starts.map V.int)) pr = some (.dK (gE [])) := by
      rw [upd_ne (ne_of_none upd_same nl)]
      exact upd_same
    have nl0 : H pl = none := s1.free nl
    have npl : pl ≠ pr := fun z => by
      rw [z, upd_same] at nl
      cases nl
    -- while left != []
    refine ⟨fun f σ H' => ∃ (r l : List Int) (v5 : Option V), σ = [some (.ref ps), some (.ref hg), some (.int i), some (.ref pr), some (.ref pl), v5, none] ∧ Same H H' ∧ H' pr = some (.dK (gE r)) ∧ H' pl = some (.lst (l.map V.int)) ∧
        Fm.nearLoop hd i f r l = Fm.nearReach starts hd i ∧ Fm.nphi hd r l < f ∧ (∀ n ∈ l, n ∈ Fm.keys hd) ∧ r.length + f ≤ 8000001 ∧ l.length + Fm.restLen hd r ≤ 8000000,
      ⟨_, [], starts, none, rfl, s2, hrp, upd_same, rfl, Fm.nphi_start hd starts, hs1, by simp only [List.length_nil]; omega, by rw [Fm.restLen_nil]; exact hz⟩, ?_⟩
    rintro f σ H1 ⟨r, l, v5, rfl, sm, h1, h2, hf, hphi, hl, hrn, hlen⟩
    refine ⟨_, rfl, (by show 0 ≤ sizeLine; exact Nat.zero_le _), fun p np => ?_⟩
    have sm1 := sm.trans (same_new (o := .lst []) np)
    have g1 : upd H1 p (.lst []) pr = some (.dK (gE r)) := by rw [upd_ne (ne_of_none h1 np)]; exact h1
    have g2 : upd H1 p (.lst []) pl = some (.lst (l.map V.int)) := by rw [upd_ne (ne_of_none h2 np)]; exact h2
    refine ⟨.list (l.map PyData.int), .list [], .lst (SqL.of g2) (dpAll_ints l), .lst (SqL.of upd_same) .nil, shaped_list (fun d hd => ?_), shaped_nil, _, rfl, ?_⟩
    · obtain ⟨n, _, rfl⟩ := List.mem_map.mp hd
      exact ⟨by simp [PyData.canLay0], by simp [PyData.depth]⟩
    rw [eqv_nil]
    cases hlast : l.getLast? with
    | none =>
      have e : l = [] := List.getLast?_eq_none_iff.mp hlast
      subst e
      refine iteF ⟨_, rfl, q _ pr sm1 nr ?_⟩
      obtain ⟨f', rfl⟩ : ∃ f', f = f' + 1 := ⟨f - 1, by omega⟩
      rw [Fm.nearLoop_none hlast] at hf
      rw [← hf]
      exact g1
    | some n =>
      have es := Fm.getLast?_split hlast
      have hne : l ≠ [] := fun z => by rw [z] at hlast; cases hlast
      have e1 : (!(l.map PyData.int).isEmpty) = true := by
        cases l with
        | nil => exact absurd rfl hne
        | cons a t => rfl
      rw [e1]
      obtain ⟨f', rfl⟩ : ∃ f', f = f' + 1 := ⟨f - 1, by omega⟩
      have hnk : n ∈ Fm.keys hd := hl n (by rw [es]; exact List.mem_append_right _ (List.mem_singleton.mpr rfl))
      have hpop : (l.map V.int)[(l.map V.int).length - 1]? = some (V.int n) := by
        rw [List.length_map, List.getElem?_map, ← List.getLast?_eq_getElem?, hlast]
        rfl
      have edl : (l.map V.int).dropLast = l.dropLast.map V.int := (List.map_dropLast ..).symm
      have hldl : l.dropLast.length + 1 = l.length := by
        have := congrArg List.length es
        rw [List.length_append, List.length_singleton] at this
        omega
      refine iteT ⟨fun σ' H' => ∃ m', m' < f' + 1 ∧ ∃ (r l : List Int) (v5 : Option V), σ' = [some (.ref ps), some (.ref hg), some (.int i), some (.ref pr), some (.ref pl), v5, none] ∧ Same H H' ∧ H' pr = some (.dK (gE r)) ∧ H' pl = some (.lst (l.map V.int)) ∧
        Fm.nearLoop hd i m' r l = Fm.nearReach starts hd i ∧ Fm.nphi hd r l < m' ∧ (∀ n ∈ l, n ∈ Fm.keys hd) ∧ r.length + m' ≤ 8000001 ∧ l.length + Fm.restLen hd r ≤ 8000000, fun σ' H' h => h, ?_⟩
      -- number = left.pop()
      refine ⟨_, rfl, .inl ⟨rfl, _, SqL.of g2⟩, pl, _, _, rfl, rfl, g2, hpop, ?_⟩
      rw [edl]
      have sm2 : Same H (upd (upd H1 p (.lst [])) pl (.lst (l.dropLast.map V.int))) := same_put sm1 nl0
      have g3 : upd (upd H1 p (.lst [])) pl (.lst (l.dropLast.map V.int)) pr = some (.dK (gE r)) := by rw [upd_ne npl.symm]; exact g1
      refine ⟨_, rfl, _, rfl, pr, _, rfl, DGet.k (k := Sum.inl n) g3, _, rfl, ?_⟩
      rw [gE_get]
      rw [Fm.nearLoop_some hlast] at hf
      by_cases hn : n ∈ r
      · rw [if_pos hn] at hf ⊢
        refine iteF ⟨f', Nat.lt_succ_self _, r, l.dropLast, _, rfl, sm2, g3, upd_same, hf, by have := Fm.nphi_skip (hd := hd) (r := r) hlast; omega, fun m hm => hl m (List.dropLast_subset _ hm), by omega, by omega⟩
      · rw [if_neg hn] at hf ⊢
        have hrl : (gE r).length < sizeLine := by
          rw [gE_length, sizeLine_eq]
          omega
        refine iteT ⟨_, rfl, _, rfl, pr, _, rfl, DPut.k (k := Sum.inl n) g3 hrl, ?_⟩
        rw [gE_put hn]
        obtain ⟨ts, ets⟩ := Fm.dget_some hnk
        have sm3 : Same H (upd (upd (upd H1 p (.lst [])) pl (.lst (l.dropLast.map V.int))) pr (.dK (gE (r ++ [n])))) := same_put sm2 nr
        generalize hH3 : upd (upd (upd H1 p (.lst [])) pl (.lst (l.dropLast.map V.int))) pr (.dK (gE (r ++ [n]))) = H3 at sm3
        have k1 : H3 pr = some (.dK (gE (r ++ [n]))) := by rw [← hH3]; exact upd_same
        have k2 : H3 pl = some (.lst (l.dropLast.map V.int)) := by rw [← hH3, upd_ne npl]; exact upd_same
        obtain ⟨d, hd1, hd2⟩ := (hin.mono sm3).at_ ets
        -- left.extend([..])
        refine ⟨_, rfl, .inl ⟨rfl, _, SqL.of k2⟩, d, _, hd2, True.intro, fun od => ?_⟩
        have ndg : d ≠ hg := ne_of hd2 (sm3 _ _ hhg) (by intro z; cases z)
        have hg4 : upd H3 d (.frz od (.dT (hE ts))) hg = some (.dK (eA ia)) := by rw [upd_ne ndg.symm]; exact sm3 _ _ hhg
        refine ⟨_, rfl, _, rfl, hg, .ref d, rfl, ?_, d, od, rfl, .inr ⟨_, upd_same, fun D nD => ?_⟩⟩
        · have := DGet.k (k := Sum.inl n) hg4
          rw [emb_get inli, hd1] at this
          exact this
        have nDd : D ≠ d := fun z => by rw [z, upd_same] at nD; cases nD
        refine lc_it (walk_keysT (d := d) (o := od) (kvs := hE ts)) (fun j H' => H' = upd (upd H3 d (.frz od (.dT (hE ts)))) D (.lst ((((ts.take j).filter fun t => decide (t.1 = i)).map (·.2)).map V.int))) rfl (fun j H' _ e => by rw [e, upd_ne nDd.symm]; exact upd_same) ?_ ?_
        · rintro j v H4 H5 hj rfl ⟨rfl, k, v', b, hk, rfl, hb⟩
          obtain ⟨t, ht, hkt⟩ : ∃ t, ts[j]? = some t ∧ (kP t, V.bl true) = (k, v') := by
            unfold hE at hk
            rw [List.getElem?_map] at hk
            cases e : ts[j]? with
            | none => rw [e] at hk; cases hk
            | some t => rw [e] at hk; exact ⟨t, rfl, Option.some.inj hk⟩
          obtain ⟨rfl, rfl⟩ := Prod.mk.inj hkt
          have hb' : _ = some (HO.tup [.int t.1, .int t.2]) := hb
          refine ⟨rfl, _, rfl, _, _, _, _, rfl, rfl, SqT.of hb', atI_nat (j := 0) rfl, _, rfl, rfl, _, rfl, ?_⟩
          rw [decV]
          have et := take_succ_at ht
          by_cases c : t.1 = i
          · rw [decide_eq_true c]
            refine iteT ⟨_, rfl, _, _, _, _, rfl, rfl, SqT.of hb', atI_nat (j := 1) rfl, _, upd_same, ?_, ?_⟩
            · rw [List.length_map, List.length_map, sizeLine_eq]
              have h1 := List.length_filter_le (fun t : Th => decide (t.1 = i)) (ts.take j)
              have h2 := List.length_take_le' j ts
              have h3 := Fm.edge_le hd ets
              omega
            · rw [upd_upd, et, List.filter_append, List.filter_cons, if_pos (decide_eq_true c)]
              simp
          · rw [decide_eq_false c]
            refine iteF ?_
            rw [et, List.filter_append, List.filter_cons, if_neg (by simp [c])]
            simp
        · rintro H4 rfl
          rw [hE_length, List.take_length]
          have eD : ((ts.filter fun t => decide (t.1 = i)).map (·.2)) = Fm.nsucc hd i n := by
            unfold Fm.nsucc
            rw [ets]
            rfl
          rw [eD]
          refine ⟨by rw [upd_ne nDd.symm]; exact upd_same, ?_⟩
          rw [unlocked hd2 nDd]
          have nD3 : H3 D = none := by rw [upd_ne nDd] at nD; exact nD
          have sm4 := sm3.trans (same_new (o := .lst ((Fm.nsucc hd i n).map V.int)) nD3)
          have k3 : upd H3 D (.lst ((Fm.nsucc hd i n).map V.int)) pl = some (.lst (l.dropLast.map V.int)) := by rw [upd_ne (ne_of_none k2 nD3)]; exact k2
          have hr2 := Fm.restLen_drop hd r n hn ets
          have hr3 := Fm.nsucc_le hd i n ets
          refine ⟨pl, D, _, _, rfl, rfl, k3, upd_same, ?_, ?_⟩
          · rw [List.length_map, List.length_map, sizeLine_eq]
            omega
          · rw [← List.map_append]
            refine ⟨f', Nat.lt_succ_self _, r ++ [n], l.dropLast ++ Fm.nsucc hd i n, _, rfl, same_put sm4 nl0, ?_, upd_same, hf, by have := Fm.nphi_new (hd := hd) (i := i) hlast hn; omega, ?_, ?_, ?_⟩
            · rw [upd_ne npl.symm, upd_ne (ne_of_none k1 nD3)]
              exact k1
            · intro m hm
              rcases List.mem_append.mp hm with z | z
              · exact hl m (List.dropLast_subset _ z)
              · unfold Fm.nsucc at z
                rw [ets] at z
                obtain ⟨t, ht, rfl⟩ := List.mem_map.mp z
                obtain ⟨ht1, ht2⟩ := List.mem_filter.mp ht
                exact hs2 _ (Fm.dget_mem ets) t ht1 (of_decide_eq_true ht2)
            · rw [List.length_append, List.length_singleton]
              omega
            · rw [List.length_append]
              omega
end
end Fh

set_option Elab.async false
set_option linter.all false
set_option maxRecDepth 100000
set_option maxHeartbeats 4000000
namespace FhR
open PySem PySem.Spec L2
/-! ### small pairs have different hashes -/
def pairHash (a b : Int) : Int := reduceHash (Builtin.Tuple.tupleHashOf [PySem.hashInt a, PySem.hashInt b])
def pairAt (k : Nat) : Int := pairHash ((k / 40 : Nat) : Int) ((k % 40 : Nat) : Int)
theorem pairs_nodup : ((List.range 160).map pairAt).Nodup := by decide +kernel
theorem pairAt_inj {j k : Nat} (hj : j < 160) (hk : k < 160) (h : pairAt j = pairAt k) : j = k := by
  have p := List.pairwise_iff_getElem.mp (List.pairwise_map.mp pairs_nodup)
  rcases Nat.lt_trichotomy j k with q | q | q
  · have := p j k (by simpa using hj) (by simpa using hk) q
    simp at this
    exact absurd h this
  · exact q
  · have := p k j (by simpa using hk) (by simpa using hj) q
    simp at this
    exact absurd h.symm this
theorem hT_pair (X : Cx) (t : Int × Int) : hT X (kP t) = pairHash t.1 t.2 := rfl
theorem hT_inj {X : Cx} {s t : Int × Int} (hs : Fm.Sm s) (ht : Fm.Sm t) (h : hT X (kP s) = hT X (kP t)) : s = t := by
  obtain ⟨a1, a2, a3, a4⟩ := hs
  obtain ⟨b1, b2, b3, b4⟩ := ht
  rw [hT_pair, hT_pair] at h
  have e : ∀ u : Int × Int, 0 ≤ u.1 → 0 ≤ u.2 → u.2 < 40 → pairHash u.1 u.2 = pairAt (u.1.toNat * 40 + u.2.toNat) := by
    intro u h1 h2 h3
    unfold pairAt
    have e1 : (u.1.toNat * 40 + u.2.toNat) / 40 = u.1.toNat := by omega
    have e2 : (u.1.toNat * 40 + u.2.toNat) % 40 = u.2.toNat := by omega
    rw [e1, e2, Int.toNat_of_nonneg h1, Int.toNat_of_nonneg h2]
  rw [e s a1 a3 a4, e t b1 b3 b4] at h
  have := pairAt_inj (by omega) (by omega) h
  refine Prod.ext ?_ ?_ <;> omega
theorem hT_nodup {X : Cx} {ts : List (Int × Int)} (hn : ts.Nodup) (hs : ∀ t ∈ ts, Fm.Sm t) : (ts.map fun t => hT X (kP t)).Nodup := by
  refine List.pairwise_map.mpr (List.Pairwise.imp_of_mem (fun {a b} ha hb hab => ?_) hn)
  exact fun z => hab (hT_inj (hs a ha) (hs b hb) z)
end FhR

set_option Elab.async false
set_option linter.all false
set_option maxRecDepth 100000
set_option maxHeartbeats 4000000
namespace Fm
theorem leT_iff {a b : Th} : leT a b = true ↔ a.1 < b.1 ∨ (a.1 = b.1 ∧ a.2 ≤ b.2) := by simp [leT]
theorem leT_trans (a b c : Th) : leT a b = true → leT b c = true → leT a c = true := by
  rw [leT_iff, leT_iff, leT_iff]
  omega
theorem leT_total (a b : Th) : (leT a b || leT b a) = true := by
  rw [Bool.or_eq_true, leT_iff, leT_iff]
  omega
theorem leT_antisymm {a b : Th} (h1 : leT a b = true) (h2 : leT b a = true) : a = b := by
  rw [leT_iff] at h1 h2
  exact Prod.ext (by omega) (by omega)
theorem sortT_eq {ys l : List Th} (p : ys.Perm l) (s : ys.Pairwise fun x y => leT x y = true) : ys = sortT l :=
  List.Perm.eq_of_pairwise (le := fun x y => leT x y = true) (fun _ _ _ _ h1 h2 => leT_antisymm h1 h2) s (List.pairwise_mergeSort leT_trans leT_total l) (p.trans (List.mergeSort_perm l leT).symm)
theorem sortI_eq {ys l : List Int} (p : ys.Perm l) (s : ys.Pairwise (· ≤ ·)) : ys = sortI l :=
  List.Perm.eq_of_pairwise (le := fun x y : Int => x ≤ y) (fun a b _ _ h1 h2 => Int.le_antisymm h1 h2) s
    ((List.pairwise_mergeSort (le := fun a b : Int => decide (a ≤ b)) (fun a b c h1 h2 => decide_eq_true (Int.le_trans (of_decide_eq_true h1) (of_decide_eq_true h2))) (fun a b => by simp; omega) l).imp fun h => of_decide_eq_true h)
    (p.trans (List.mergeSort_perm l _).symm)
theorem length_sortT (l : List Th) : (sortT l).length = l.length := (List.mergeSort_perm l leT).length_eq
theorem length_sortI (l : List Int) : (sortI l).length = l.length := (List.mergeSort_perm l _).length_eq
theorem nodup_sortT {l : List Th} (h : l.Nodup) : (sortT l).Nodup := (List.mergeSort_perm l leT).nodup_iff.mpr h
end Fm
namespace Fh
open PySem PySem.Spec L2 FhR
open Fm (Th Hs StD Wd Er HG HB)
theorem sorted_addrs {H : Hp} {bs : List Addr} {k : V → Int × Int} {ts : List Th} (hs : SrtO.Srtd (ltP k) (bs.map V.ref)) (hp : ((bs.map V.ref).map k).Perm ts)
    (hb : ∀ b ∈ bs, H b = some (.tup [.int (k (.ref b)).1, .int (k (.ref b)).2])) : DVs H (bs.map V.ref) ((Fm.sortT ts).map dTh) := by
  have e : (bs.map V.ref).map k = Fm.sortT ts := by
    refine Fm.sortT_eq hp (List.pairwise_map.mpr (hs.imp fun {x y} h => ?_))
    have h' : ¬ SrtO.lexB (k y) (k x) = true := by rw [show SrtO.lexB (k y) (k x) = false from h]; decide
    rw [SrtO.lexB_iff] at h'
    rw [Fm.leT_iff]
    omega
  rw [← e]
  clear e hs hp
  induction bs with
  | nil => exact .nil
  | cons b r ih => exact .cons (.mkTh (hb b List.mem_cons_self)) (ih fun b hb' => hb b (List.mem_cons_of_mem _ hb'))
section
variable {X : Cx}
def rSortT : List V → Hp → VK → Prop := fun xs H Q => ∃ (a : Addr) (kvs : List (List Key × V)) (ts : List Th), xs = [.ref a] ∧ Rd H a (.dT kvs) ∧ kvs.map (·.1) = ts.map kP ∧
    ∀ vs p, H p = none → DVs H vs ((Fm.sortT ts).map dTh) → Q (.ref p) (upd H p (.lst vs))
def rSortI : List V → Hp → VK → Prop := fun xs H Q => ∃ (a : Addr) (kvs : List (Key × V)) (ks : List Int), xs = [.ref a] ∧ Rd H a (.dK kvs) ∧ kvs.map (·.1) = ks.map Sum.inl ∧
    ∀ p, H p = none → Q (.ref p) (upd H p (.lst ((Fm.sortI ks).map V.int)))
theorem call_sortT (hc : X.calm = true) : CallR X (.builtin "sorted") rSortT := by
  intro pins s σ H xs us Q I r q
  obtain ⟨a, kvs, ts, e, rd, hk, q⟩ := q
  exact call_sortedT hc pins s σ H xs us Q I r ⟨a, kvs, ts, e, rd, hk, fun bs k p hp hs hperm hb => q _ p hp (sorted_addrs hs hperm hb)⟩
theorem call_sortI (hc : X.calm = true) : CallR X (.builtin "sorted") rSortI := by
  intro pins s σ H xs us Q I r q
  obtain ⟨a, kvs, ks, e, rd, hk, q⟩ := q
  refine call_sortedI hc pins s σ H xs us Q I r ⟨a, kvs, ks, e, rd, hk, fun ys p hp hs hperm => ?_⟩
  rw [Fm.sortI_eq hp hs]
  exact q p hperm
end
theorem hE_merge : ∀ (ts acc : List Th), mergeT (hE acc) (hE ts) = hE (ts.foldl Fm.hput acc)
  | [], _ => rfl
  | t :: ts, acc => by
    show mergeT (putK (hE acc) (kP t) (.bl true)) (hE ts) = _
    rw [hE_put, hE_merge ts]
    rfl
theorem hE_hash {X : Cx} {ts : List Th} (hn : ts.Nodup) (hs : ∀ t ∈ ts, Fm.Sm t) : ((hE ts).map fun p => hT X p.1).Nodup := by
  unfold hE
  rw [List.map_map]
  exact hT_nodup hn hs
/-- a change beside a lock -/
theorem upd_in {H : Hp} {p q : Addr} {x y z : HO} (h : p ≠ q) : upd (upd (upd H p x) q y) p z = upd (upd H p z) q y := by
  funext b
  unfold upd
  by_cases h1 : b = p
  · have h2 : b ≠ q := fun e => h (h1.symm.trans e)
    rw [if_pos h1, if_neg h2, if_pos h1]
  · rw [if_neg h1, if_neg h1]
    by_cases h2 : b = q
    · rw [if_pos h2, if_pos h2]
    · rw [if_neg h2, if_neg h2, if_neg h1]
theorem upd_back {H : Hp} {q : Addr} {u y : HO} (h : H q = some u) : upd (upd H q y) q u = H := by
  rw [upd_upd]
  funext b
  unfold upd
  by_cases h1 : b = q
  · rw [if_pos h1, h1, h]
  · rw [if_neg h1]
end Fh

set_option Elab.async false
set_option linter.all false
set_option maxRecDepth 100000
set_option maxHeartbeats 4000000
namespace Fm
/-! ### what is given back, step by step -/
def Hs.heldN (S : Hs) (j : Nat) : List Th := (S.holding.take j).foldl (fun acc e => e.2.foldl hput acc) S.hand
theorem foldl_hput_len {κ : Type} [DecidableEq κ] : ∀ (l acc : List κ), (l.foldl hput acc).length ≤ acc.length + l.length
  | [], acc => by simp
  | x :: l, acc => by
    have h1 := foldl_hput_len l (hput acc x)
    have h2 := hput_len acc x
    simp only [List.foldl_cons, List.length_cons]
    omega
theorem heldN_succ {S : Hs} {j : Nat} {e : Int × List Th} (h : S.holding[j]? = some e) : S.heldN (j + 1) = e.2.foldl hput (S.heldN j) := by
  unfold Hs.heldN
  rw [List.take_succ, h]
  simp
theorem heldN_all (S : Hs) : S.heldN S.holding.length = S.held := by
  unfold Hs.heldN Hs.held
  rw [List.take_length]
theorem heldN_len {S : Hs} (hb : HB S) : ∀ j, j ≤ S.holding.length → (S.heldN j).length ≤ 1000 + 1000 * j
  | 0, _ => by simpa [Hs.heldN] using hb.hd
  | j + 1, h => by
    have hj : j < S.holding.length := h
    obtain ⟨e, he⟩ : ∃ e, S.holding[j]? = some e := ⟨_, List.getElem?_eq_getElem hj⟩
    have h1 := heldN_len hb j (by omega)
    have h2 := foldl_hput_len e.2 (S.heldN j)
    have h3 := hb.inn e (List.mem_of_getElem? he)
    rw [heldN_succ he]
    omega
def Hs.cutR (S : Hs) (dn : List Th) : List (Th × Int) := S.recs.filter fun e => (fun t => decide (t ∈ S.held ∨ t ∉ dn)) e.1
theorem cutR_nil (S : Hs) : S.cutR [] = S.recs := by
  unfold Hs.cutR
  rw [List.filter_eq_self]
  intro e _
  simp
theorem cutR_in {S : Hs} {dn : List Th} {t : Th} (h : t ∈ S.held) : S.cutR (dn ++ [t]) = S.cutR dn := by
  unfold Hs.cutR
  apply List.filter_congr
  intro e _
  apply decide_eq_decide.mpr
  by_cases q : e.1 = t
  · rw [q]
    simp [h]
  · simp [q]
theorem cutR_out {S : Hs} {dn : List Th} {t : Th} (h : t ∉ S.held) : S.cutR (dn ++ [t]) = ddrop (S.cutR dn) t := by
  unfold Hs.cutR ddrop
  rw [List.filter_filter]
  apply List.filter_congr
  intro e _
  by_cases q : e.1 = t
  · simp [q, h]
  · simp [q]
theorem cutR_all (S : Hs) : S.cutR (sortT (keys S.recs)) = S.recs.filter fun e => decide (e.1 ∈ S.held) := by
  unfold Hs.cutR
  apply List.filter_congr
  intro e he
  have : e.1 ∈ sortT (keys S.recs) := mem_sortT.mpr (mem_keys_of he)
  simp [this]
theorem cutR_get {S : Hs} {dn : List Th} {t : Th} (h : t ∉ dn) : dget (S.cutR dn) t = dget S.recs t := by
  unfold Hs.cutR
  rw [dget_filter S.recs (fun t => decide (t ∈ S.held ∨ t ∉ dn)), if_pos (by simp [h])]
def Hs.backT (S : Hs) (t : Th) : Option (Th × Int) := if t ∈ S.held then none else if (dget S.recs t).getD 0 > 0 then some (t, (dget S.recs t).getD 0) else none
theorem back_eq (S : Hs) : S.back = (sortT (keys S.recs)).filterMap S.backT := rfl
end Fm
namespace Fh
open PySem PySem.Spec L2 FhR
open Fm (Th Hs StD Wd Er HG HB HSm)
theorem emb_at {κ β κ' : Type} {f : κ → κ'} {g : β → V} {d : List (κ × β)} {j : Nat} {k : κ'} {v : V} (h : (emb f g d)[j]? = some (k, v)) : ∃ e, d[j]? = some e ∧ k = f e.1 ∧ v = g e.2 := by
  unfold emb at h
  rw [List.getElem?_map] at h
  cases e : d[j]? with
  | none => rw [e] at h; cases h
  | some t =>
    rw [e] at h
    obtain ⟨h1, h2⟩ := Prod.mk.inj (Option.some.inj h)
    exact ⟨t, rfl, h1.symm, h2.symm⟩
theorem map_at {α β : Type} {f : α → β} {l : List α} {j : Nat} {d : β} (h : (l.map f)[j]? = some d) : ∃ t, l[j]? = some t ∧ d = f t := by
  rw [List.getElem?_map] at h
  cases e : l[j]? with
  | none => rw [e] at h; cases h
  | some t => rw [e] at h; exact ⟨t, rfl, (Option.some.inj h).symm⟩
theorem nodup_take {α : Type} {l : List α} {j : Nat} {t : α} (hn : l.Nodup) (h : l[j]? = some t) : t ∉ l.take j := by
  intro hm
  obtain ⟨i, hi, e⟩ := List.mem_iff_getElem.mp hm
  rw [List.getElem_take] at e
  obtain ⟨hj, ej⟩ := List.getElem?_eq_some_iff.mp h
  have hij : i < j := by
    rw [List.length_take] at hi
    omega
  have := List.pairwise_iff_getElem.mp hn i j (by omega) hj hij
  exact this (e.trans ej.symm)
theorem hu3_of {k : Nat} {A : Around} (r : Room k A) : A.units + 3 < cLine := Nat.lt_of_le_of_lt (by omega) r.units
theorem ne_own {ow : Ow} {b p : Addr} {l : Lab} (hb : ow b = none) (hp : ow p = some l) : b ≠ p := fun z => by rw [z, hp] at hb; cases hb
/-- a deed that gives weight back -/
def spBack (K : PySem.W.Frag) (pre : Int → Hs → List Th → Prop) (vsOf : List Th → Hp → Ow → List V → Prop) (f : Int → Hs → List Th → Hs) : Sp := fun vs H Q _ => ∃ (l : Lab) (ow : Ow) (a : Addr) (i : Int) (S : Hs) (ts : List Th) (more : List V), vs = .ref a :: more ∧ vsOf ts H ow more ∧ HAt (hC K) l H ow a i S ∧ Clean H ow ∧ HB S ∧ HSm S ∧ (Fm.keys S.recs).Nodup ∧
  (Fm.keys S.holding).Nodup ∧ pre i S ts ∧
  ∀ H' ow' r ws, Frm (fun m => m = l) H ow H' ow' → HAt (hC K) l H' ow' a i (f i S ts).givenBack → ow' r = none → H' r = some (.lst ws) → DVs H' ws ((f i S ts).back.map dRec) → Q (.ref r) H'
section
variable {P : Program} {w : World} {K : PySem.W.Frag} {mg : Str → Option Value} {base : Heap}
theorem scGivenBack : FnScope ["self", "held", "number", "back", "thing", "weight"] ["self"] (defScope sH_given_back) := ⟨rfl, rfl, rfl, by decide +kernel, rfl, by decide +kernel, by decide +kernel⟩
theorem ok_given_back (T : Tx K mg) : Ok P w K mg base 1 dH_given_back ["self"] (spBack K (fun _ _ _ => True) (fun _ _ _ more => more = []) fun _ S _ => S) := by
  refine Ok.mk T 19 rfl ⟨rfl, rfl⟩ scGivenBack (fun vs H Q E h => ?_) (fun _ _ _ _ _ _ us hl => match us, hl with | [_], _ => rfl) (fun cdv A outer s H vs Q E hr h => ?_)
  · obtain ⟨l, ow, a, i, S, ts, more, rfl, rfl, _⟩ := h
    rfl
  · obtain ⟨l, ow, a, i, S, ts0, more, rfl, rfl, ⟨x, hh⟩, hcl, hb, hs, hrn, hkn, _, q⟩ := h
    have hu := hu_of hr
    refine ⟨_, pss_cons (ps_set (i := 1) scGivenBack.nd rfl (.inl rfl) (pe_callTy (call_dictT (hu3_of hr)) rfl T.f_dict PyProof.Rows.boot_dict (pa_cons (pe_fld (pv 0) rfl) pa_nil)))
      (pss_cons (ps_lock (ps_for (passes_of rfl) rfl (pi_keys (pe_fld (pv 0) rfl)) (pg_name (i := 2) scGivenBack.nd rfl (.inl rfl))
        (pss_one (ps_expr (pe_bm PySem.F.plainAttrs_dict PySem.F.slot_dict_update PySem.F.type_dict_update (mt_updT hu) (pv 1) (pa_cons (pe_dget hu (pe_fld (pv 0) rfl) (pv 2) (fun _ _ => rfl)) pa_nil))))))
      (pss_cons (ps_set (i := 3) scGivenBack.nd rfl (.inl rfl) (pe_lst pa_nil))
      (pss_cons (ps_for (passes_of rfl) rfl (pi_list (pe_callB (call_sortT rfl) rfl T.f_sorted PyProof.Rows.boot_sorted (pa_cons (pe_fld (pv 0) rfl) pa_nil))) (pg_name (i := 4) scGivenBack.nd rfl (.inl rfl))
        (pss_one (ps_if (pt_cmp (pc_dnotin hu (pv 4) (pv 1)))
          (pss_cons (ps_set (i := 5) scGivenBack.nd rfl (.inl rfl) (pe_bm PySem.F.plainAttrs_dict PySem.F.slot_dict_pop PySem.F.type_dict_pop (mt_popT1 hu) (pe_fld (pv 0) rfl) (pa_cons (pv 4) pa_nil)))
          (pss_one (ps_if (pt_cmpR op_gt (pv 5) pe_int (nomark _))
            (pss_one (ps_expr (pe_bm PySem.F.plainAttrs_list PySem.F.slot_list_append PySem.F.type_list_append mt_append (pv 3) (pa_cons (pe_tup (pa_cons (pv 4) (pa_cons (pv 5) pa_nil))) pa_nil)))) pss_nil))) pss_nil)))
      (pss_cons (ps_fld (pv 0) (pe_op op_add (pe_fld (pv 0) rfl) pe_int) rfl)
      (pss_one (ps_ret (pv 3))))))), ?_⟩
    -- held = dict(self.hand)
    refine ⟨_, rfl, _, _, _, _, _, rfl, hh.ob, T.c_House, T.n_House_hand, hf_hand, _, _, rfl, hh.hd, hE_hash hs.nh hs.hd, fun pl nl => ?_⟩
    have wl : ow pl = none := hcl _ nl
    have h1 : ∀ acc, HIs (hC K) l (upd H pl (.dT (hE acc))) ow a i S x := fun acc => hh.new nl
    have ngl : x.hg ≠ pl := (ne_own wl hh.lg).symm
    -- for number in self.holding
    refine ⟨x.hg, _, (h1 _).hg, True.intro, fun od => ?_⟩
    have gAt : ∀ acc b o, b ≠ x.hg → upd H pl (.dT (hE acc)) b = some o → upd (upd H pl (.dT (hE acc))) x.hg (.frz od (.dK (eA x.ia))) b = some o := fun acc b o n e => by rw [upd_ne n]; exact e
    have obne : a ≠ x.hg := ne_of hh.ob hh.hg (by intro z; cases z)
    refine ⟨_, rfl, _, _, _, _, _, rfl, gAt _ _ _ obne (h1 _).ob, T.c_House, T.n_House_holding, hf_holding, x.hg, od, rfl, .inl ⟨_, upd_same, ?_⟩⟩
    refine for_it (walk_keys (d := x.hg) (o := od) (kvs := eA x.ia)) (fun j σ H' => ∃ v2 : Option V, σ = [some (.ref a), some (.ref pl), v2, none, none, none] ∧ H' = upd (upd H pl (.dT (hE (S.heldN j)))) x.hg (.frz od (.dK (eA x.ia))))
      ⟨none, rfl, rfl⟩ (fun j σ H' _ z => by obtain ⟨_, _, rfl⟩ := z; exact upd_same) ?_ ?_
    · rintro j v σ H1 H2 hj ⟨v2, rfl, rfl⟩ ⟨rfl, k, v', hk, rfl⟩
      obtain ⟨e, he, rfl, rfl⟩ := emb_at hk
      obtain ⟨g, hg, hge⟩ := paired_get hh.inn he
      have hjS : j < S.holding.length := (List.getElem?_eq_some_iff.mp hg).1
      have dg : Fm.dget x.ia e.1 = some e.2 := Fm.dget_of_mem (by rw [hh.keys]; exact hkn) (List.mem_of_getElem? he)
      have nel : e.2 ≠ pl := (ne_own wl hge.2.2).symm
      have neg : e.2 ≠ x.hg := ne_of hge.2.1 hh.hg (by intro z; cases z)
      refine ⟨_, rfl, .inr (.inr (.inl ⟨rfl, .inr ⟨_, gAt _ _ _ ngl.symm upd_same⟩⟩)), _, rfl, _, _, _, _, _, rfl, gAt _ _ _ obne (h1 _).ob, T.c_House, T.n_House_holding, hf_holding, _, rfl, x.hg, .ref e.2, rfl, .inl ⟨_, Sum.inl e.1, .inr ⟨od, upd_same⟩, rfl, ?_⟩, ?_⟩
      · rw [emb_get inli, dg]
        rfl
      · have hgS : g ∈ S.holding := List.mem_of_getElem? hg
        refine ⟨pl, e.2, _, _, rfl, rfl, gAt _ _ _ ngl.symm upd_same, gAt _ _ _ neg (by rw [upd_ne nel]; exact hge.2.1), nel.symm, hE_hash (hs.inn g hgS).1 (hs.inn g hgS).2, ?_, ?_⟩
        · have z1 := Fm.heldN_len hb j (by omega)
          have z2 := hb.inn g hgS
          have z3 := hb.hg
          rw [hE_length, hE_length, sizeLine_eq]
          omega
        · rw [hE_merge, upd_in ngl.symm, ← Fm.heldN_succ hg]
          exact ⟨_, rfl, rfl⟩
    · rintro σ H1 ⟨v2, rfl, rfl⟩
      have el : (eA x.ia).length = S.holding.length := by rw [emb_length, ← List.length_map (f := Prod.fst)]; show (Fm.keys x.ia).length = _; rw [hh.keys]; exact List.length_map ..
      rw [el, Fm.heldN_all]
      refine ⟨upd_same, ?_⟩
      rw [upd_back (h1 S.held).hg]
      have g1 := h1 S.held
      have f1 : Frm (fun m => m = l) H ow _ ow := (Frm.refl).new (o := .dT (hE S.held)) nl
      have gl : upd H pl (.dT (hE S.held)) pl = some (.dT (hE S.held)) := upd_same
      generalize upd H pl (.dT (hE S.held)) = H1 at g1 f1 gl
      -- back = []
      refine ⟨(by show 0 ≤ sizeLine; exact Nat.zero_le _), fun pb nb => ?_⟩
      have g2 := g1.new (o := .lst []) nb
      have f2 := f1.new (o := .lst []) nb
      have wb : ow pb = none := f1.cl hcl _ nb
      have hpb0 : H pb = none := f1.none_back nb
      have gl2 : upd H1 pb (.lst []) pl = some (.dT (hE S.held)) := by rw [upd_ne (ne_of_none gl nb)]; exact gl
      have gb2 : upd H1 pb (.lst []) pb = some (.lst []) := upd_same
      have nlb : pl ≠ pb := ne_of_none gl nb
      generalize upd H1 pb (.lst []) = H2 at g2 f2 gl2 gb2
      -- sorted(self.records)
      refine ⟨_, rfl, _, _, _, _, _, rfl, g2.ob, T.c_House, T.n_House_records, hf_records, _, _, Fm.keys S.recs, rfl, .inl g2.hr, emb_keys _, fun vs ps np hvs => ?_⟩
      have ws : ow ps = none := f2.cl hcl _ np
      have g3 := g2.new (o := .lst vs) np
      have f3 := f2.new (o := .lst vs) np
      have nls : pl ≠ ps := ne_of_none gl2 np
      have nbs : pb ≠ ps := ne_of_none gb2 np
      have hlen : vs.length = (Fm.sortT (Fm.keys S.recs)).length := by rw [hvs.length]; exact List.length_map ..
      have hnd : (Fm.sortT (Fm.keys S.recs)).Nodup := Fm.nodup_sortT hrn
      refine ⟨ps, rfl, ⟨_, SqL.of upd_same⟩, ?_⟩
      refine for_it (walk_list (a := ps) (xs := vs)) (fun j σ H' => ∃ (v2 v4 v5 : Option V) (bvs : List V), σ = [some (.ref a), some (.ref pl), v2, some (.ref pb), v4, v5] ∧ HIs (hC K) l H' ow a i { S with recs := S.cutR ((Fm.sortT (Fm.keys S.recs)).take j) } x ∧
          Frm (fun m => m = l) H ow H' ow ∧ H' pl = some (.dT (hE S.held)) ∧ H' pb = some (.lst bvs) ∧ DVs H' bvs ((((Fm.sortT (Fm.keys S.recs)).take j).filterMap S.backT).map dRec) ∧ H' ps = some (.lst vs) ∧ DVs H' vs ((Fm.sortT (Fm.keys S.recs)).map dTh))
        ⟨_, none, none, [], rfl, g3.same (by rw [List.take_zero, Fm.cutR_nil]), f3, by rw [upd_ne nls]; exact gl2, by rw [upd_ne nbs]; exact gb2, .nil, upd_same, hvs.mono fun b xs e => by rw [upd_ne (ne_of_none e np)]; exact e⟩
        (fun j σ H' _ z => by obtain ⟨_, _, _, _, rfl, _, _, _, _, _, z, _⟩ := z; exact SqL.of z) ?_ ?_
      · rintro j v σ H5 H4 hj ⟨v2, v4, v5, bvs, rfl, g, f, e1, e2, e3, e4, e5⟩ ⟨rfl, hv⟩
        obtain ⟨d, hd, hdv⟩ := e5.get hv
        obtain ⟨t, ht, rfl⟩ := map_at hd
        obtain ⟨c, rfl, hc⟩ := id hdv.th
        have htk : t ∈ Fm.keys S.recs := Fm.mem_sortT.mp (List.mem_of_getElem? ht)
        obtain ⟨n, hn⟩ := Fm.dget_some htk
        have htj : t ∉ (Fm.sortT (Fm.keys S.recs)).take j := nodup_take hnd ht
        have etk := take_succ_at ht
        refine ⟨_, rfl, _, rfl, pl, _, rfl, DGet.t (k := kP t) e1 hc, _, rfl, ?_⟩
        rw [hE_get]
        by_cases hm : t ∈ S.held
        · rw [if_pos hm]
          refine iteF ⟨v2, _, v5, bvs, rfl, g.same (by rw [etk, Fm.cutR_in hm]), f, e1, e2, ?_, e4, e5⟩
          rw [etk, List.filterMap_append]
          have : S.backT t = none := if_pos hm
          simpa [this] using e3
        · rw [if_neg hm]
          refine iteT ⟨_, rfl, _, _, _, _, _, rfl, g.ob, T.c_House, T.n_House_records, hf_records, .inr (.inr (.inl ⟨rfl, .inr ⟨_, g.hr⟩⟩)), _, rfl, x.hr, _, kP t, c, .int n, rfl, rfl, g.hr, hc, ?_, ?_⟩
          · rw [emb_get kPi, Fm.cutR_get htj, hn]
            rfl
          rw [emb_drop kPi]
          have g' := g.hr' (Fm.ddrop (S.cutR ((Fm.sortT (Fm.keys S.recs)).take j)) t)
          have f' := f.lab (o' := .dT (eT (Fm.ddrop (S.cutR ((Fm.sortT (Fm.keys S.recs)).take j)) t))) hh.hr (by intro xs z; cases z) hh.lr rfl
          have tp : TS H4 (upd H4 x.hr (.dT (eT (Fm.ddrop (S.cutR ((Fm.sortT (Fm.keys S.recs)).take j)) t)))) := fun b xs e => keepD e g.hr (by intro z; cases z)
          have k1 : upd H4 x.hr (.dT (eT (Fm.ddrop (S.cutR ((Fm.sortT (Fm.keys S.recs)).take j)) t))) pl = some (.dT (hE S.held)) := by rw [upd_ne (ne_own wl hh.lr)]; exact e1
          have k2 : upd H4 x.hr (.dT (eT (Fm.ddrop (S.cutR ((Fm.sortT (Fm.keys S.recs)).take j)) t))) pb = some (.lst bvs) := by rw [upd_ne (ne_own wb hh.lr)]; exact e2
          have k4 : upd H4 x.hr (.dT (eT (Fm.ddrop (S.cutR ((Fm.sortT (Fm.keys S.recs)).take j)) t))) ps = some (.lst vs) := by rw [upd_ne (ne_own ws hh.lr)]; exact e4
          have k3 := e3.mono tp
          have k5 := e5.mono tp
          have kc := tp _ _ hc
          rw [← Fm.cutR_out hm, ← etk] at *
          generalize upd H4 x.hr (.dT (eT (S.cutR ((Fm.sortT (Fm.keys S.recs)).take (j + 1))))) = H6 at *
          have etk := take_succ_at ht
          refine ⟨_, rfl, _, _, rfl, rfl, _, rfl, ?_⟩
          have ebt : S.backT t = if n > 0 then some (t, n) else none := by
            unfold Hs.backT
            rw [if_neg hm, hn]
            rfl
          by_cases hp : (0 : Int) < n
          · rw [decide_eq_true hp]
            rw [if_pos hp] at ebt
            refine iteT ⟨_, rfl, .inl ⟨rfl, _, SqL.of k2⟩, _, rfl, _, rfl, (by show 2 ≤ sizeLine; decide), fun p np => ⟨pb, bvs, .ref p, rfl, rfl, ?_, ?_, ?_⟩⟩
            · rw [upd_ne (ne_of_none k2 np)]
              exact k2
            · rw [k3.length, List.length_map]
              have z1 := List.length_filterMap_le S.backT ((Fm.sortT (Fm.keys S.recs)).take j)
              have z2 := List.length_take_le' j (Fm.sortT (Fm.keys S.recs))
              have z3 := Fm.length_sortT (Fm.keys S.recs)
              have z4 : (Fm.keys S.recs).length = S.recs.length := List.length_map ..
              have z5 := hb.hr
              exact line_lt (by omega)
            · have wp : ow p = none := f'.cl hcl _ np
              have npb : pb ≠ p := ne_of_none k2 np
              have tp2 : TS H6 (upd (upd H6 p (.tup [.ref c, .int n])) pb (.lst (bvs ++ [.ref p]))) := fun b xs e => keepD (keepN e np) (show upd H6 p _ pb = some (.lst bvs) by rw [upd_ne npb]; exact k2) (by intro z; cases z)
              have np0 : H6 p = none := np
              refine ⟨v2, _, _, _, rfl, (g'.new np).other wb, ?_, ?_, upd_same, ?_, ?_, k5.mono tp2⟩
              · refine (f'.new np).put (.inl ?_) (.inr (.inr True.intro))
                exact hpb0
              · rw [upd_ne nlb, upd_ne (ne_of_none k1 np)]
                exact k1
              · rw [etk, List.filterMap_append]
                have e6 : (List.filterMap S.backT [t]) = [(t, n)] := by simp [ebt]
                rw [e6, List.map_append]
                refine (k3.mono tp2).snoc (.tup (xs := [.ref c, .int n]) ?_ (.cons (.mkTh (tp2 _ _ kc)) (.cons (.int n) .nil)))
                rw [upd_ne npb.symm]
                exact upd_same
              · rw [upd_ne (fun z => by rw [z] at k4; rw [k2] at k4; exact nbs z.symm), upd_ne (ne_of_none k4 np)]
                exact k4
          · rw [decide_eq_false hp]
            rw [if_neg hp] at ebt
            refine iteF ⟨v2, _, _, bvs, rfl, g', f', k1, k2, ?_, k4, k5⟩
            rw [etk, List.filterMap_append]
            simpa [ebt] using k3
      · rintro σ H4 ⟨v2, v4, v5, bvs, rfl, g, f, e1, e2, e3, e4, e5⟩
        rw [hlen, List.take_length] at g e3
        refine ⟨_, rfl, _, _, _, _, _, rfl, g.ob, T.c_House, T.n_House_ticks, hf_ticks, _, _, rfl, rfl, _, rfl, _, _, _, _, rfl, g.ob, T.c_House, T.n_House_ticks, hf_len, ?_⟩
        rw [hf_set_ticks]
        have g' := g.ob' S.made (S.ticks + 1)
        refine ⟨_, rfl, q _ ow pb bvs (f.lab hh.ob (by intro xs z; cases z) hh.la rfl) ⟨_, g'.same ?_⟩ wb ?_ (e3.mono fun b xs e => keepD e g.ob (by intro z; cases z))⟩
        · unfold Hs.givenBack
          rw [Fm.cutR_all]
        · rw [upd_ne (ne_of e2 g.ob (by intro z; cases z))]
          exact e2
end
end Fh

set_option Elab.async false
set_option linter.all false
set_option maxRecDepth 100000
set_option maxHeartbeats 4000000
namespace Fm
theorem only_congr {S : Hs} {p q : Int → Bool} (h : ∀ n, n ∈ keys S.holding ∨ n ∈ keys S.outs → p n = q n) : S.only p = S.only q := by
  unfold Hs.only
  congr 1
  · exact List.filter_congr fun e he => h _ (.inl (mem_keys_of he))
  · exact List.filter_congr fun e he => h _ (.inr (mem_keys_of he))
theorem only_all {S : Hs} {p : Int → Bool} (h : ∀ n, n ∈ keys S.holding ∨ n ∈ keys S.outs → p n = true) : S.only p = S := by
  unfold Hs.only
  rw [List.filter_eq_self.mpr fun e he => h _ (.inl (mem_keys_of he)), List.filter_eq_self.mpr fun e he => h _ (.inr (mem_keys_of he))]
theorem only_drop (S : Hs) (p : Int → Bool) (n : Int) : ({ S.only p with holding := ddrop (S.only p).holding n, outs := ddrop (S.only p).outs n } : Hs) = S.only fun k => p k && decide (k ≠ n) := by
  unfold Hs.only ddrop
  dsimp only
  rw [List.filter_filter, List.filter_filter]
  congr 1
  · exact List.filter_congr fun e _ => Bool.and_comm ..
  · exact List.filter_congr fun e _ => Bool.and_comm ..
theorem keys_only_h (S : Hs) (p : Int → Bool) : keys (S.only p).holding = (keys S.holding).filter p := keys_filter S.holding p
theorem keys_only_o (S : Hs) (p : Int → Bool) : keys (S.only p).outs = (keys S.outs).filter p := keys_filter S.outs p
theorem HB.only {S : Hs} (h : HB S) (p : Int → Bool) : HB (S.only p) :=
  ⟨h.hd, Nat.le_trans (List.length_filter_le ..) h.hg, Nat.le_trans (List.length_filter_le ..) h.ho, h.hr, fun e he => h.inn e (List.mem_filter.mp he).1⟩
theorem HSm.only {S : Hs} (h : HSm S) (p : Int → Bool) : HSm (S.only p) := ⟨h.hd, h.nh, fun e he => h.inn e (List.mem_filter.mp he).1, h.rc⟩
theorem edges_le {S : Hs} (h : HB S) : edges S.holding ≤ 1000 * S.holding.length := by
  have k : ∀ hs : List (Int × List Th), (∀ e ∈ hs, e.2.length ≤ 1000) → edges hs ≤ 1000 * hs.length := by
    intro hs
    induction hs with
    | nil => intro _; exact Nat.zero_le _
    | cons e r ih =>
      intro h
      have h1 := ih fun x hx => h x (List.mem_cons_of_mem _ hx)
      have h2 := h e List.mem_cons_self
      unfold edges at h1 ⊢
      simp only [List.map_cons, List.sum_cons, List.length_cons]
      omega
  exact k _ h.inn
theorem starts_len {S : Hs} {i : Int} (h : HB S) : (S.starts i).length ≤ 2000 := by
  unfold Hs.starts
  rw [List.length_append, List.length_map, List.length_map]
  have h1 := List.length_filter_le (fun t : Th => decide (t.1 = i)) S.hand
  have h2 := List.length_filter_le (fun e : Int × Int => decide (e.2 > 0)) S.outs
  have h3 := h.hd
  have h4 := h.ho
  omega
theorem starts_mem {S : Hs} {i : Int} (hg : HG i S) : ∀ n ∈ S.starts i, n ∈ keys S.holding := by
  intro n hn
  unfold Hs.starts at hn
  rcases List.mem_append.mp hn with z | z
  · obtain ⟨t, ht, rfl⟩ := List.mem_map.mp z
    obtain ⟨h1, h2⟩ := List.mem_filter.mp ht
    exact hg.near t h1 (of_decide_eq_true h2)
  · obtain ⟨e, he, rfl⟩ := List.mem_map.mp z
    rw [← hg.ko]
    exact mem_keys_of (List.mem_filter.mp he).1
end Fm
namespace Fh
open PySem PySem.Spec L2 FhR
open Fm (Th Hs StD Wd Er HG HB HSm)
section
variable {P : Program} {w : World} {K : PySem.W.Frag} {mg : Str → Option Value} {base : Heap}
theorem HIs.only {C a : Addr} {l : Lab} {H' : Hp} {ow : Ow} {i : Int} {S : Hs} {x : HAd} {p : Int → Bool} {n : Int} (h : HIs C l H' ow a i { S.only p with holding := Fm.ddrop (S.only p).holding n, outs := Fm.ddrop (S.only p).outs n } x) :
    HIs C l H' ow a i (S.only fun k => p k && decide (k ≠ n)) x := h.same (Fm.only_drop S p n)
theorem emb_kV {β : Type} {g : β → V} (d : List (Int × β)) : (emb Sum.inl g d).map (fun kv => kV kv.1) = (Fm.keys d).map V.int := by
  unfold emb Fm.keys
  rw [List.map_map, List.map_map]
  rfl
theorem dvs_th {H : Hp} {vs : List V} {ts : List Th} (h : DVs H vs (ts.map dTh)) {j : Nat} {v : V} (hv : vs[j]? = some v) : ∃ (b : Addr) (t : Th), v = .ref b ∧ ts[j]? = some t ∧ H b = some (.tup [.int t.1, .int t.2]) := by
  obtain ⟨d, hd, hdv⟩ := h.get hv
  obtain ⟨t, ht, rfl⟩ := map_at hd
  obtain ⟨b, rfl, hb⟩ := hdv.th
  exact ⟨b, t, rfl, ht, hb⟩
theorem scLet : FnScope ["self", "things", "thing"] ["self", "things"] (defScope sH_let) := ⟨rfl, rfl, rfl, by decide +kernel, rfl, by decide +kernel, by decide +kernel⟩
theorem ok_let (T : Tx K mg) : Ok P w K mg base 2 dH_let ["self", "things"] (spBack K (fun i S _ => HG i S) (fun ts H _ more => ∃ v, more = [v] ∧ DV H v (dThs ts)) fun _ S ts => S.without ts) := by
  obtain ⟨f1, F1, b1, k1⟩ := ok_gone (P := P) (w := w) (base := base) T
  obtain ⟨f2, F2, b2, k2⟩ := ok_given_back (P := P) (w := w) (base := base) T
  refine Ok.mk T 21 rfl ⟨rfl, rfl⟩ scLet (fun vs H Q E h => ?_) (fun _ _ _ _ _ _ us hl => match us, hl with | [_, _], _ => rfl) (fun cdv A outer s H vs Q E hr h => ?_)
  · obtain ⟨l, ow, a, i, S, ts, more, rfl, ⟨v, rfl, _⟩, _⟩ := h
    rfl
  · obtain ⟨l, ow, a, i, S, ts, more, rfl, ⟨v, rfl, hv⟩, ⟨x, hh⟩, hcl, hb, hs, hrn, hkn, hg, q⟩ := h
    have hu := hu_of hr
    obtain ⟨pt, vs, rfl, hpt, hvs⟩ : ∃ pt vs, v = .ref pt ∧ H pt = some (.tup vs) ∧ DVs H vs (ts.map dTh) := by
      cases hv with
      | tup h1 h2 => exact ⟨_, _, rfl, h1, h2⟩
    refine ⟨_, pss_cons (ps_for (passes_of rfl) rfl (pi_tup (pv 1)) (pg_name (i := 2) scLet.nd rfl (.inl rfl))
        (pss_one (ps_if (pt_cmp (pc_din hu (pe_ix ix_tup (pv 2) pe_int (fun _ _ => rfl)) (pe_fld (pv 0) rfl)))
          (pss_one (ps_expr (pe_meth (pv 0) T.c_House T.m_House_gone F1 hr b1 .nil passL (pa_cons (pe_ix ix_tup (pv 2) pe_int (fun _ _ => rfl)) pa_nil)))) pss_nil)))
      (pss_one (ps_ret (pe_meth0 (pv 0) T.c_House T.m_House_given_back F2 hr b2 .nil passL))), ?_⟩
    refine ⟨_, rfl, pt, rfl, ⟨_, SqT.of hpt⟩, ?_⟩
    have hlen : vs.length = ts.length := by rw [hvs.length]; exact List.length_map ..
    refine for_it (walk_tup (a := pt) (xs := vs)) (fun j σ H' => ∃ (v2 : Option V) (x' : HAd), σ = [some (.ref a), some (.ref pt), v2] ∧ HIs (hC K) l H' ow a i (S.only fun n => decide (n ∉ (ts.take j).map (·.2))) x' ∧ Frm (fun m => m = l) H ow H' ow)
      ⟨none, x, rfl, hh.same (Fm.only_all fun n _ => by simp).symm, Frm.refl⟩ (fun j σ H' _ z => by obtain ⟨_, _, rfl, _, f⟩ := z; exact SqT.of (f.tup _ _ hpt)) ?_ ?_
    · rintro j v σ H5 H4 hj ⟨v2, x', rfl, g, f⟩ ⟨rfl, hv⟩
      obtain ⟨c, t, rfl, ht, hc0⟩ := dvs_th hvs hv
      have hc := f.tup _ _ hc0
      have etk := take_succ_at ht
      refine ⟨_, rfl, _, _, _, _, rfl, rfl, SqT.of hc, atI_nat (j := 1) rfl, _, rfl, _, _, _, _, _, rfl, g.ob, T.c_House, T.n_House_holding, hf_holding, _, _, rfl, DGet.k (k := Sum.inl t.2) g.hg, _, rfl, ?_⟩
      rw [emb_get inli]
      cases e : Fm.dget x'.ia t.2 with
      | none =>
        refine iteF ⟨_, x', rfl, g.same (Fm.only_congr fun n hn => ?_), f⟩
        have hn0 : n ∈ Fm.keys S.holding := by
          rcases hn with z | z
          · exact z
          · rw [← hg.ko]
            exact z
        have nk := Fm.dget_none.mp e
        rw [g.keys, Fm.keys_only_h] at nk
        apply decide_eq_decide.mpr
        rw [etk, List.map_append, List.mem_append]
        constructor
        · rintro h (h1 | h1)
          · exact h h1
          · have e2 : n = t.2 := by simpa using h1
            subst e2
            exact nk (List.mem_filter.mpr ⟨hn0, by simpa using h⟩)
        · exact fun h h1 => h (.inl h1)
      | some p =>
        have hk1 : t.2 ∈ Fm.keys (S.only fun n => decide (n ∉ (ts.take j).map (·.2))).holding := by rw [← g.keys]; exact Fm.mem_keys e
        refine iteT ⟨_, rfl, _, _, _, rfl, g.ob, hf_gone, _, rfl, _, _, _, _, rfl, rfl, SqT.of hc, atI_nat (j := 1) rfl, l, ow, a, i, _, x', t.2, rfl, g, hk1, ?_, fun H' f' g' _ => ?_⟩
        · rw [Fm.keys_only_h, ← hg.ko, ← Fm.keys_only_o] at hk1
          exact hk1
        · refine ⟨_, _, rfl, g'.only.same (Fm.only_congr fun n _ => ?_), f.trans f'⟩
          rw [etk, List.map_append]
          simp
    · rintro σ H4 ⟨v2, x', rfl, g, f⟩
      rw [hlen, List.take_length] at g
      refine ⟨_, rfl, _, _, _, rfl, g.ob, hf_given_back, l, ow, a, i, S.without ts, [], [], rfl, rfl, ⟨x', g⟩, f.cl hcl, hb.only _, hs.only _, hrn, ?_, True.intro, fun H' ow' r ws f' g' w' e d => q H' ow' r ws (f.trans f') g' w' e d⟩
      show (Fm.keys (S.only _).holding).Nodup
      rw [Fm.keys_only_h]
      exact hkn.filter _
/-- a near thing goes: the dict of what nothing reaches is read beside it -/
theorem scClean : FnScope ["self", "starts", "number", "reached", "thing"] ["self"] (defScope sH_clean) := ⟨rfl, rfl, rfl, by decide +kernel, rfl, by decide +kernel, by decide +kernel⟩
theorem ok_clean (T : Tx K mg) : Ok P w K mg base 2 dH_clean ["self"] (spBack K (fun i S _ => HG i S) (fun _ _ _ more => more = []) fun i S _ => S.swept i) := by
  obtain ⟨f1, F1, b1, k1⟩ := ok_gone (P := P) (w := w) (base := base) T
  obtain ⟨f2, F2, b2, k2⟩ := ok_given_back (P := P) (w := w) (base := base) T
  obtain ⟨f3, F3, b3, k3⟩ := ok_near (P := P) (w := w) (base := base) T
  refine Ok.mk T 20 rfl ⟨rfl, rfl⟩ scClean (fun vs H Q E h => ?_) (fun _ _ _ _ _ _ us hl => match us, hl with | [_], _ => rfl) (fun cdv A outer s H vs Q E hr h => ?_)
  · obtain ⟨l, ow, a, i, S, ts, more, rfl, rfl, _⟩ := h
    rfl
  · obtain ⟨l, ow, a, i, S, ts0, more, rfl, rfl, ⟨x, hh⟩, hcl, hb, hs, hrn, hkn, hg, q⟩ := h
    have hu := hu_of hr
    refine ⟨_, pss_cons (ps_lock (ps_setLc (i := 1) (own := [("thing", 4)]) (g := gName 4) (tt := tTest (tOp rEq (tOp (rIxT K) (tVar 4) (tC (.int 0))) (tFld K (tVar 0) "number"))) (te := tOp (rIxT K) (tVar 4) (tC (.int 1))) rfl scClean.nd rfl rfl (sw_true rfl rfl rfl rfl) (pi_keys (pe_fld (pv 0) rfl))
          (blkOk_by (own := [("thing", 4)]) (N := ["self", "starts", "number", "reached", "thing"]) (sc := defScope sH_clean) (by decide +kernel))
          (fun _ _ _ _ _ => pg_name (i := 4) scClean.nd rfl (.inl rfl)) (fun _ _ _ _ _ => pts_one (pt_cmpR op_eq (pe_ix ix_tup (pv 4) pe_int (fun _ _ => rfl)) (pe_fld (pv 0) rfl) (nomark _))) (fun _ _ _ _ _ => pe_ix ix_tup (pv 4) pe_int (fun _ _ => rfl))))
      (pss_cons (ps_set (i := 1) scClean.nd rfl (.inl rfl) (pe_op op_cat (pv 1) (pe_lock (pe_lc (own := [("number", 2)]) (g := gName 2) (tt := tTest (tOp (rI0 fun i j => .bl (decide (j < i))) (tDGet (tFld K (tVar 0) "outs") (tVar 2)) (tC (.int 0)))) (te := tVar 2) rfl scClean.nd (pi_keys (pe_fld (pv 0) rfl))
          (blkOk_by (own := [("number", 2)]) (N := ["self", "starts", "number", "reached", "thing"]) (sc := defScope sH_clean) (by decide +kernel))
          (fun _ _ _ _ _ => pg_name (i := 2) scClean.nd rfl (.inl rfl)) (fun _ _ _ _ _ => pts_one (pt_cmpR op_gt (pe_dget hu (pe_fld (pv 0) rfl) (pv 2) (fun _ _ => rfl)) pe_int (nomark _))) (fun _ _ _ _ _ => pv 2)))))
      (pss_cons (ps_set (i := 3) scClean.nd rfl (.inl rfl) (pe_call F3 hr rfl T.g_near_reach k3 b3 .nil passL (pa_cons (pv 1) (pa_cons (pe_fld (pv 0) rfl) (pa_cons (pe_fld (pv 0) rfl) pa_nil)))))
      (pss_cons (ps_for (passes_of rfl) rfl (pi_list (pe_callTy (call_list_dK rfl) rfl T.f_list PyProof.Rows.boot_list (pa_cons (pe_fld (pv 0) rfl) pa_nil))) (pg_name (i := 2) scClean.nd rfl (.inl rfl))
        (pss_one (ps_if (pt_cmp (pc_dnotin hu (pv 2) (pv 3)))
          (pss_one (ps_expr (pe_meth (pv 0) T.c_House T.m_House_gone F1 hr b1 .nil passL (pa_cons (pv 2) pa_nil)))) pss_nil)))
      (pss_one (ps_ret (pe_meth0 (pv 0) T.c_House T.m_House_given_back F2 hr b2 .nil passL)))))), ?_⟩
    -- starts, by the hand
    refine ⟨x.hd, _, hh.hd, True.intro, fun od => ?_⟩
    have nad : a ≠ x.hd := ne_of hh.ob hh.hd (by intro z; cases z)
    refine ⟨_, rfl, _, _, _, _, _, rfl, by rw [upd_ne nad]; exact hh.ob, T.c_House, T.n_House_hand, hf_hand, x.hd, od, rfl, .inr ⟨_, upd_same, fun D nD => ?_⟩⟩
    have nDd : D ≠ x.hd := fun z => by rw [z, upd_same] at nD; cases nD
    have nD0 : H D = none := by rw [upd_ne nDd] at nD; exact nD
    have naD : a ≠ D := ne_of_none hh.ob nD0
    refine lc_it (walk_keysT (d := x.hd) (o := od) (kvs := hE S.hand)) (fun j H' => H' = upd (upd H x.hd (.frz od (.dT (hE S.hand)))) D (.lst ((((S.hand.take j).filter fun t => decide (t.1 = i)).map (·.2)).map V.int))) rfl (fun j H' _ e => by rw [e, upd_ne nDd.symm]; exact upd_same) ?_ ?_
    · rintro j v H4 H5 hj rfl ⟨rfl, k, v', b, hk, rfl, hb0⟩
      obtain ⟨t, ht, hkt⟩ := map_at hk
      obtain ⟨rfl, rfl⟩ := Prod.mk.inj hkt
      have hb' : _ = some (HO.tup [.int t.1, .int t.2]) := hb0
      refine ⟨rfl, _, rfl, _, _, _, _, rfl, rfl, SqT.of hb', atI_nat (j := 0) rfl, _, rfl, _, _, _, _, _, rfl, by rw [upd_ne naD, upd_ne nad]; exact hh.ob, T.c_House, T.n_House_number, hf_number, rfl, _, rfl, ?_⟩
      rw [decV]
      have et := take_succ_at ht
      by_cases c : t.1 = i
      · rw [decide_eq_true c]
        refine iteT ⟨_, rfl, _, _, _, _, rfl, rfl, SqT.of hb', atI_nat (j := 1) rfl, _, upd_same, ?_, ?_⟩
        · rw [List.length_map, List.length_map]
          have h1 := List.length_filter_le (fun t : Th => decide (t.1 = i)) (S.hand.take j)
          have h2 := List.length_take_le' j S.hand
          have h3 := hb.hd
          exact line_lt (by omega)
        · rw [upd_upd, et, List.filter_append, List.filter_cons, if_pos (decide_eq_true c)]
          simp
      · rw [decide_eq_false c]
        refine iteF ?_
        rw [et, List.filter_append, List.filter_cons, if_neg (by simp [c])]
        simp
    rintro H4 rfl
    rw [hE_length, List.take_length]
    refine ⟨by rw [upd_ne nDd.symm]; exact upd_same, ?_⟩
    rw [unlocked hh.hd nDd]
    have wD : ow D = none := hcl _ nD0
    have g1 := hh.new (o := .lst (((S.hand.filter fun t => decide (t.1 = i)).map (·.2)).map V.int)) nD0
    have f1' : Frm (fun m => m = l) H ow _ ow := (Frm.refl).new (o := .lst (((S.hand.filter fun t => decide (t.1 = i)).map (·.2)).map V.int)) nD0
    have e1 : upd H D (.lst (((S.hand.filter fun t => decide (t.1 = i)).map (·.2)).map V.int)) D = some (.lst (((S.hand.filter fun t => decide (t.1 = i)).map (·.2)).map V.int)) := upd_same
    generalize upd H D (.lst (((S.hand.filter fun t => decide (t.1 = i)).map (·.2)).map V.int)) = H1 at g1 f1' e1
    -- starts, by the weights
    refine ⟨_, rfl, x.ho, _, g1.ho, True.intro, fun od2 => ?_⟩
    have nao : a ≠ x.ho := ne_of g1.ob g1.ho (by intro z; cases z)
    refine ⟨_, rfl, _, _, _, _, _, rfl, by rw [upd_ne nao]; exact g1.ob, T.c_House, T.n_House_outs, hf_outs, x.ho, od2, rfl, .inl ⟨_, upd_same, fun D2 nD2 => ?_⟩⟩
    have nDo : D2 ≠ x.ho := fun z => by rw [z, upd_same] at nD2; cases nD2
    have nD20 : H1 D2 = none := by rw [upd_ne nDo] at nD2; exact nD2
    have naD2 : a ≠ D2 := ne_of_none g1.ob nD20
    refine lc_it (walk_keys (d := x.ho) (o := od2) (kvs := eI S.outs)) (fun j H' => H' = upd (upd H1 x.ho (.frz od2 (.dK (eI S.outs)))) D2 (.lst ((((S.outs.take j).filter fun e => decide (e.2 > 0)).map (·.1)).map V.int))) rfl (fun j H' _ e => by rw [e, upd_ne nDo.symm]; exact upd_same) ?_ ?_
    · rintro j v H4 H5 hj rfl ⟨rfl, k, v', hk, rfl⟩
      obtain ⟨e, he, rfl, rfl⟩ := emb_at hk
      have dg : Fm.dget S.outs e.1 = some e.2 := Fm.dget_of_mem (by rw [hg.ko]; exact hkn) (List.mem_of_getElem? he)
      refine ⟨rfl, _, rfl, _, _, _, _, _, rfl, by rw [upd_ne naD2, upd_ne nao]; exact g1.ob, T.c_House, T.n_House_outs, hf_outs, _, rfl, x.ho, .int e.2, rfl, .inl ⟨_, Sum.inl e.1, .inr ⟨od2, by rw [upd_ne nDo.symm]; exact upd_same⟩, rfl, by rw [emb_get inli, dg]; rfl⟩, _, _, rfl, rfl, _, rfl, ?_⟩
      have et := take_succ_at he
      by_cases c : e.2 > 0
      · rw [decide_eq_true c]
        refine iteT ⟨_, rfl, _, upd_same, ?_, ?_⟩
        · rw [List.length_map, List.length_map]
          have h1 := List.length_filter_le (fun e : Int × Int => decide (e.2 > 0)) (S.outs.take j)
          have h2 := List.length_take_le' j S.outs
          have h3 := hb.ho
          exact line_lt (by omega)
        · rw [upd_upd, et, List.filter_append, List.filter_cons, if_pos (decide_eq_true c), List.map_append, List.map_append]
          rfl
      · rw [decide_eq_false c]
        refine iteF ?_
        rw [et, List.filter_append, List.filter_cons, if_neg (by simp [c])]
        simp
    rintro H4 rfl
    rw [emb_length, List.take_length]
    refine ⟨by rw [upd_ne nDo.symm]; exact upd_same, ?_⟩
    rw [unlocked g1.ho nDo]
    have g2 := g1.new (o := .lst (((S.outs.filter fun e => decide (e.2 > 0)).map (·.1)).map V.int)) nD20
    have f2' := f1'.new (o := .lst (((S.outs.filter fun e => decide (e.2 > 0)).map (·.1)).map V.int)) nD20
    have e2 : upd H1 D2 (.lst (((S.outs.filter fun e => decide (e.2 > 0)).map (·.1)).map V.int)) D2 = some (.lst (((S.outs.filter fun e => decide (e.2 > 0)).map (·.1)).map V.int)) := upd_same
    have e1' : upd H1 D2 (.lst (((S.outs.filter fun e => decide (e.2 > 0)).map (·.1)).map V.int)) D = some (.lst (((S.hand.filter fun t => decide (t.1 = i)).map (·.2)).map V.int)) := by rw [upd_ne (ne_of_none e1 nD20)]; exact e1
    generalize upd H1 D2 (.lst (((S.outs.filter fun e => decide (e.2 > 0)).map (·.1)).map V.int)) = H2 at g2 f2' e2 e1'
    have hsl := Fm.starts_len (i := i) hb
    have est : S.starts i = ((S.hand.filter fun t => decide (t.1 = i)).map (·.2)) ++ ((S.outs.filter fun e => decide (e.2 > 0)).map (·.1)) := rfl
    refine ⟨D, D2, _, _, rfl, rfl, e1', e2, ?_, fun p3 n3 => ?_⟩
    · rw [← List.length_append, ← List.map_append, ← est, List.length_map, sizeLine_eq]
      omega
    rw [← List.map_append, ← est]
    have g3 := g2.new (o := .lst ((S.starts i).map V.int)) n3
    have f3' := f2'.new (o := .lst ((S.starts i).map V.int)) n3
    have e3 : upd H2 p3 (.lst ((S.starts i).map V.int)) p3 = some (.lst ((S.starts i).map V.int)) := upd_same
    generalize upd H2 p3 (.lst ((S.starts i).map V.int)) = H3 at g3 f3' e3
    -- near_reach
    have hedge := Fm.edges_le hb
    refine ⟨_, rfl, _, rfl, _, _, _, _, _, rfl, g3.ob, T.c_House, T.n_House_holding, hf_holding, _, rfl, _, _, _, _, _, rfl, g3.ob, T.c_House, T.n_House_number, hf_number, p3, x.hg, S.starts i, x.ia, S.holding, i, rfl, e3, g3.hg, g3.inns, ?_, Fm.starts_mem hg, hg.inn, fun H4 r sm nr er => ?_⟩
    · have := hb.hg
      omega
    have hcl3 := f3'.cl hcl
    have wr : ow r = none := hcl3 _ nr
    have f4 := f3'.trans (Frm.of_same (P := fun m => m = l) sm hcl3)
    have g4 := g3.stay (ow' := ow) fun b o e _ => ⟨sm b o e, rfl⟩
    -- for number in list(self.holding)
    refine ⟨_, rfl, _, _, _, _, _, rfl, g4.ob, T.c_House, T.n_House_holding, hf_holding, x.hg, _, rfl, g4.hg, fun pk nk => ?_⟩
    have ekeys : (eA x.ia).map (fun kv => kV kv.1) = (Fm.keys S.holding).map V.int := by
      rw [← hh.keys]
      exact emb_kV x.ia
    rw [ekeys]
    have wk : ow pk = none := f4.cl hcl _ nk
    have g5 := g4.new (o := .lst ((Fm.keys S.holding).map V.int)) nk
    have f5 := f4.new (o := .lst ((Fm.keys S.holding).map V.int)) nk
    have e5 : upd H4 pk (.lst ((Fm.keys S.holding).map V.int)) pk = some (.lst ((Fm.keys S.holding).map V.int)) := upd_same
    have r5 : upd H4 pk (.lst ((Fm.keys S.holding).map V.int)) r = some (.dK (gE (S.kept i))) := by rw [upd_ne (ne_of_none er nk)]; exact er
    generalize upd H4 pk (.lst ((Fm.keys S.holding).map V.int)) = H5 at g5 f5 e5 r5
    refine ⟨pk, rfl, ⟨_, SqL.of e5⟩, ?_⟩
    refine for_it (walk_list (a := pk) (xs := (Fm.keys S.holding).map V.int)) (fun j σ H' => ∃ (v2 v4 : Option V) (x' : HAd), σ = [some (.ref a), some (.ref p3), v2, some (.ref r), v4] ∧ HIs (hC K) l H' ow a i (S.only fun n => decide (n ∈ S.kept i ∨ n ∉ (Fm.keys S.holding).take j)) x' ∧ Frm (fun m => m = l) H5 ow H' ow)
      ⟨_, _, x, rfl, g5.same (Fm.only_all fun n _ => by simp).symm, Frm.refl⟩ (fun j σ H' _ z => by obtain ⟨_, _, _, rfl, _, f⟩ := z; exact SqL.of (f.at e5 (.inl wk)).1) ?_ ?_
    · rintro j v σ H7 H6 hj ⟨v2, v4, x', rfl, g, f⟩ ⟨rfl, hv⟩
      obtain ⟨n, hn, rfl⟩ := map_at hv
      have hnk : n ∈ Fm.keys S.holding := List.mem_of_getElem? hn
      have hnj : n ∉ (Fm.keys S.holding).take j := nodup_take hkn hn
      have etk := take_succ_at hn
      refine ⟨_, rfl, _, rfl, r, _, rfl, DGet.k (k := Sum.inl n) (f.at r5 (.inl wr)).1, _, rfl, ?_⟩
      rw [gE_get]
      by_cases hm : n ∈ S.kept i
      · rw [if_pos hm]
        refine iteF ⟨_, v4, x', rfl, g.same (Fm.only_congr fun m _ => ?_), f⟩
        apply decide_eq_decide.mpr
        rw [etk, List.mem_append, List.mem_singleton]
        constructor
        · rintro (h | h)
          · exact .inl h
          · by_cases z : m = n
            · exact .inl (z ▸ hm)
            · exact .inr fun y => y.elim h z
        · exact fun h => h.imp id fun y z => y (.inl z)
      · rw [if_neg hm]
        have hk1 : n ∈ Fm.keys (S.only fun n => decide (n ∈ S.kept i ∨ n ∉ (Fm.keys S.holding).take j)).holding := by
          rw [Fm.keys_only_h]
          exact List.mem_filter.mpr ⟨hnk, by simp [hnj]⟩
        refine iteT ⟨_, rfl, _, _, _, rfl, g.ob, hf_gone, _, rfl, l, ow, a, i, _, x', n, rfl, g, hk1, ?_, fun H' f' g' _ => ?_⟩
        · rw [Fm.keys_only_o, hg.ko, ← Fm.keys_only_h]
          exact hk1
        · refine ⟨_, v4, _, rfl, g'.only.same (Fm.only_congr fun m _ => ?_), f.trans f'⟩
          rw [← Bool.decide_and]
          apply decide_eq_decide.mpr
          rw [etk, List.mem_append, List.mem_singleton]
          constructor
          · rintro ⟨h1 | h1, h2⟩
            · exact .inl h1
            · exact .inr fun y => y.elim h1 h2
          · rintro (h1 | h1)
            · exact ⟨.inl h1, fun z => hm (z ▸ h1)⟩
            · exact ⟨.inr fun y => h1 (.inl y), fun z => h1 (.inr z)⟩
    · rintro σ H6 ⟨v2, v4, x', rfl, g, f⟩
      rw [List.length_map, List.take_length] at g
      have g' : HIs (hC K) l H6 ow a i (S.swept i) x' := g.same (Fm.only_congr fun m hm => by
        have hm0 : m ∈ Fm.keys S.holding := by
          rcases hm with z | z
          · exact z
          · rw [← hg.ko]
            exact z
        apply decide_eq_decide.mpr
        exact ⟨fun h => h.resolve_right fun z => z hm0, .inl⟩)
      have f6 := f5.trans f
      refine ⟨_, rfl, _, _, _, rfl, g'.ob, hf_given_back, l, ow, a, i, S.swept i, [], [], rfl, rfl, ⟨x', g'⟩, f6.cl hcl, hb.only _, hs.only _, hrn, ?_, True.intro, fun H' ow' r ws f' g' w' e d => q H' ow' r ws (f6.trans f') g' w' e d⟩
      show (Fm.keys (S.only _).holding).Nodup
      rw [Fm.keys_only_h]
      exact hkn.filter _
end
end Fh

set_option Elab.async false
set_option linter.all false
set_option maxRecDepth 100000
set_option maxHeartbeats 4000000
namespace Fh
open PySem PySem.Spec L2 FhR
open Fm (Th Hs StD Wd Er HG HB HSm)
theorem Same.ts {H H' : Hp} (s : Same H H') : TS H H' := fun b _ e => s b _ e
theorem ts_put {H : Hp} {D : Addr} {o o' : HO} (e : H D = some o) (n : ∀ xs, HO.tup xs ≠ o) : TS H (upd H D o') := fun _ xs h => keepD h e (n xs)
theorem dvs_ths {H : Hp} {p : Addr} {vs : List V} {ts : List Th} (h : H p = some (.tup vs)) (d : DVs H vs (ts.map dTh)) : DV H (.ref p) (dThs ts) := .tup h d
theorem keepL {H : Hp} {a b : Addr} {o o' : HO} (e : H b = some o') (n : H a = none) : upd H a o b = some o' := by rw [upd_ne (ne_of_none e n)]; exact e
/-- a value from a state that did not move: only new objects -/
def spState (K : PySem.W.Frag) : Sp := fun vs H Q _ => ∃ (l : Lab) (ow : Ow) (a : Addr) (i : Int) (S : Hs), vs = [.ref a] ∧ HAt (hC K) l H ow a i S ∧ HB S ∧ (Fm.keys S.outs = Fm.keys S.holding) ∧ (Fm.keys S.holding).Nodup ∧ (Fm.keys S.recs).Nodup ∧
  ∀ v H', Same H H' → DV H' v (dSt (S.state i)) → Q v H'
def stThing (i : Int) (S : Hs) (n : Int) : Th × Int × List Th := ((i, n), (Fm.dget S.outs n).getD 0, Fm.sortT ((Fm.dget S.holding n).getD []))
def stRec (S : Hs) (t : Th) : Th × Int := (t, (Fm.dget S.recs t).getD 0)
section
variable {P : Program} {w : World} {K : PySem.W.Frag} {mg : Str → Option Value} {base : Heap}
theorem scState : FnScope ["self", "things", "records", "n", "thing"] ["self"] (defScope sH_state) := ⟨rfl, rfl, rfl, by decide +kernel, rfl, by decide +kernel, by decide +kernel⟩
theorem ok_state (T : Tx K mg) : Ok P w K mg base 1 dH_state ["self"] (spState K) := by
  refine Ok.mk T 4 rfl ⟨rfl, rfl⟩ scState (fun vs H Q E h => ?_) (fun _ _ _ _ _ _ us hl => match us, hl with | [_], _ => rfl) (fun cdv A outer s H vs Q E hr h => ?_)
  · obtain ⟨l, ow, a, i, S, rfl, _⟩ := h
    rfl
  · obtain ⟨l, ow, a, i, S, rfl, ⟨x, hh⟩, hb, hko, hkn, hrn, q⟩ := h
    have hu := hu_of hr
    refine ⟨_, pss_cons (ps_setLc (i := 1) (own := [("n", 3)]) (g := gName 3) (tt := tYes)
          (te := tTup (tCons (tTup (tCons (tFld K (tVar 0) "number") (tCons (tVar 3) tNil))) (tCons (tDGet (tFld K (tVar 0) "outs") (tVar 3)) (tCons (tThen (tCB rSortT (tCons (tDGet (tFld K (tVar 0) "holding") (tVar 3)) tNil)) (kTup K)) tNil))))
          rfl scState.nd rfl rfl (sw_true rfl rfl rfl rfl) (pi_list (pe_callB (call_sortI rfl) rfl T.f_sorted PyProof.Rows.boot_sorted (pa_cons (pe_fld (pv 0) rfl) pa_nil)))
          (blkOk_by (own := [("n", 3)]) (N := ["self", "things", "records", "n", "thing"]) (sc := defScope sH_state) (by decide +kernel))
          (fun _ _ _ _ _ => pg_name (i := 3) scState.nd rfl (.inl rfl)) (fun _ _ _ _ _ => pts_nil)
          (fun _ _ _ _ _ => pe_tup (pa_cons (pe_tup (pa_cons (pe_fld (pv 0) rfl) (pa_cons (pv 3) pa_nil))) (pa_cons (pe_dget hu (pe_fld (pv 0) rfl) (pv 3) (fun _ _ => rfl))
            (pa_cons (pe_tupleOf rfl T.f_tuple (pe_callB (call_sortT rfl) rfl T.f_sorted PyProof.Rows.boot_sorted (pa_cons (pe_dget hu (pe_fld (pv 0) rfl) (pv 3) (fun _ _ => rfl)) pa_nil))) pa_nil)))))
      (pss_cons (ps_setLc (i := 2) (own := [("thing", 4)]) (g := gName 4) (tt := tYes)
          (te := tTup (tCons (tVar 4) (tCons (tDGet (tFld K (tVar 0) "records") (tVar 4)) tNil)))
          rfl scState.nd rfl rfl (sw_true rfl rfl rfl rfl) (pi_list (pe_callB (call_sortT rfl) rfl T.f_sorted PyProof.Rows.boot_sorted (pa_cons (pe_fld (pv 0) rfl) pa_nil)))
          (blkOk_by (own := [("thing", 4)]) (N := ["self", "things", "records", "n", "thing"]) (sc := defScope sH_state) (by decide +kernel))
          (fun _ _ _ _ _ => pg_name (i := 4) scState.nd rfl (.inl rfl)) (fun _ _ _ _ _ => pts_nil)
          (fun _ _ _ _ _ => pe_tup (pa_cons (pv 4) (pa_cons (pe_dget hu (pe_fld (pv 0) rfl) (pv 4) (fun _ _ => rfl)) pa_nil))))
      (pss_one (ps_ret (pe_tup (pa_cons (pe_tupleOf rfl T.f_tuple (pe_callB (call_sortT rfl) rfl T.f_sorted PyProof.Rows.boot_sorted (pa_cons (pe_fld (pv 0) rfl) pa_nil)))
        (pa_cons (pe_tupleOf rfl T.f_tuple (pv 1)) (pa_cons (pe_tupleOf rfl T.f_tuple (pv 2)) pa_nil))))))), ?_⟩
    have eki : (eA x.ia).map (·.1) = (Fm.keys S.holding).map Sum.inl := by rw [emb_keys, hh.keys]
    -- things
    refine ⟨_, rfl, _, _, _, _, _, rfl, hh.ob, T.c_House, T.n_House_holding, hf_holding, x.hg, _, Fm.keys S.holding, rfl, .inl hh.hg, eki, fun ps np => ?_⟩
    have s1 := same_new (o := .lst ((Fm.sortI (Fm.keys S.holding)).map V.int)) np
    have e1 : upd H ps (.lst ((Fm.sortI (Fm.keys S.holding)).map V.int)) ps = some (.lst ((Fm.sortI (Fm.keys S.holding)).map V.int)) := upd_same
    generalize upd H ps (.lst ((Fm.sortI (Fm.keys S.holding)).map V.int)) = H1 at s1 e1
    refine ⟨ps, rfl, ⟨_, SqL.of e1⟩, fun D nD => ?_⟩
    have nD0 : H D = none := s1.free nD
    have psD : ps ≠ D := ne_of_none e1 nD
    refine lc_it (walk_list (a := ps) (xs := (Fm.sortI (Fm.keys S.holding)).map V.int)) (fun j H' => Same H H' ∧ H' ps = some (.lst ((Fm.sortI (Fm.keys S.holding)).map V.int)) ∧ ∃ acc, H' D = some (.lst acc) ∧ DVs H' acc ((((Fm.sortI (Fm.keys S.holding)).take j).map (stThing i S)).map dEnt))
      ⟨s1.trans (same_new nD), by rw [upd_ne psD]; exact e1, [], upd_same, .nil⟩ (fun j H' _ z => SqL.of z.2.1) ?_ ?_
    · rintro j v H5 H4 hj ⟨sm, hp, acc, hD, hacc⟩ ⟨rfl, hv⟩
      obtain ⟨n, hn, rfl⟩ := map_at hv
      have hnk : n ∈ Fm.keys S.holding := Fm.mem_sortI.mp (List.mem_of_getElem? hn)
      obtain ⟨ts, ets⟩ := Fm.dget_some hnk
      obtain ⟨o, eo⟩ := Fm.dget_some (show n ∈ Fm.keys S.outs by rw [hko]; exact hnk)
      obtain ⟨p, dp, hpd, _⟩ := hh.at_ ets
      have etk := take_succ_at hn
      refine ⟨rfl, _, rfl, _, _, _, _, _, rfl, sm _ _ hh.ob, T.c_House, T.n_House_number, hf_number, _, rfl, (by show 2 ≤ sizeLine; decide), fun p1 n1 => ?_⟩
      have s2 := sm.trans (same_new (o := .tup [.int i, .int n]) n1)
      have t2 := Same.ts (same_new (o := .tup [.int i, .int n]) n1)
      have k2 : upd H4 p1 (.tup [.int i, .int n]) p1 = some (.tup [.int i, .int n]) := upd_same
      have D2 : upd H4 p1 (.tup [.int i, .int n]) D = some (.lst acc) := by rw [upd_ne (ne_of_none hD n1)]; exact hD
      have P2 := keepL hp n1 (o := .tup [.int i, .int n])
      generalize upd H4 p1 (.tup [.int i, .int n]) = H6 at s2 t2 k2 D2 P2
      have go := DGet.k (k := Sum.inl n) (s2 _ _ hh.ho)
      rw [emb_get inli, eo] at go
      have gh := DGet.k (k := Sum.inl n) (s2 _ _ hh.hg)
      rw [emb_get inli, dp] at gh
      refine ⟨_, rfl, _, _, _, _, _, rfl, s2 _ _ hh.ob, T.c_House, T.n_House_outs, hf_outs, _, rfl, x.ho, .int o, rfl, go, _, rfl, _, _, _, _, _, rfl, s2 _ _ hh.ob, T.c_House, T.n_House_holding, hf_holding, _, rfl, x.hg, .ref p, rfl, gh, p, _, ts, rfl, .inl (s2 _ _ hpd), hE_keys ts, fun vs p3 n3 dv3 => ?_⟩
      have s3 := s2.trans (same_new (o := .lst vs) n3)
      have t3 := Same.ts (same_new (o := .lst vs) n3)
      have k3 : upd H6 p3 (.lst vs) p3 = some (.lst vs) := upd_same
      have D3 : upd H6 p3 (.lst vs) D = some (.lst acc) := by rw [upd_ne (ne_of_none D2 n3)]; exact D2
      have P3 := keepL P2 n3 (o := .lst vs)
      generalize upd H6 p3 (.lst vs) = H7 at s3 t3 k3 D3 P3
      refine .inl ⟨p3, vs, rfl, SqL.of k3, fun p4 n4 => ?_⟩
      have s4 := s3.trans (same_new (o := .tup vs) n4)
      have t4 := Same.ts (same_new (o := .tup vs) n4)
      have k4 : upd H7 p4 (.tup vs) p4 = some (.tup vs) := upd_same
      have D4 : upd H7 p4 (.tup vs) D = some (.lst acc) := by rw [upd_ne (ne_of_none D3 n4)]; exact D3
      have P4 := keepL P3 n4 (o := .tup vs)
      generalize upd H7 p4 (.tup vs) = H8 at s4 t4 k4 D4 P4
      refine ⟨(by show 3 ≤ sizeLine; decide), fun p5 n5 => ?_⟩
      have s5 := s4.trans (same_new (o := .tup [.ref p1, .int o, .ref p4]) n5)
      have t5 := Same.ts (same_new (o := .tup [.ref p1, .int o, .ref p4]) n5)
      have k5 : upd H8 p5 (.tup [.ref p1, .int o, .ref p4]) p5 = some (.tup [.ref p1, .int o, .ref p4]) := upd_same
      have D5 : upd H8 p5 (.tup [.ref p1, .int o, .ref p4]) D = some (.lst acc) := by rw [upd_ne (ne_of_none D4 n5)]; exact D4
      have P5 := keepL P4 n5 (o := .tup [.ref p1, .int o, .ref p4])
      generalize upd H8 p5 (.tup [.ref p1, .int o, .ref p4]) = H9 at s5 t5 k5 D5 P5
      have t6 := ts_put (o' := .lst (acc ++ [.ref p5])) D5 (by intro xs z; cases z)
      refine ⟨acc, D5, ?_, same_put s5 nD0, by rw [upd_ne psD]; exact P5, _, upd_same, ?_⟩
      · rw [hacc.length, List.length_map, List.length_map]
        have h2 := List.length_take_le' j (Fm.sortI (Fm.keys S.holding))
        have h3 := Fm.length_sortI (Fm.keys S.holding)
        have h4 : (Fm.keys S.holding).length = S.holding.length := List.length_map ..
        have h5 := hb.hg
        exact line_lt (by omega)
      · rw [etk, List.map_append, List.map_append]
        refine ((((((hacc.mono t2).mono t3).mono t4).mono t5).mono t6)).snoc (.tup (t6 _ _ k5) (.cons ?_ (.cons ?_ (.cons ?_ .nil))))
        · exact .mkTh (t := (i, n)) (t6 _ _ (t5 _ _ (t4 _ _ (t3 _ _ k2))))
        · rw [show (stThing i S n).2.1 = o by unfold stThing; rw [eo]; rfl]
          exact .int o
        · rw [show (stThing i S n).2.2 = Fm.sortT ts by unfold stThing; rw [ets]; rfl]
          exact .tup (t6 _ _ (t5 _ _ k4)) ((((dv3.mono t3).mono t4).mono t5).mono t6)
    rintro H2 ⟨sm, _, acc1, hD, hacc⟩
    rw [List.length_map, List.take_length] at hacc
    have hacc : DVs H2 acc1 ((S.state i).things.map dEnt) := hacc
    -- records
    refine ⟨_, rfl, _, _, _, _, _, rfl, sm _ _ hh.ob, T.c_House, T.n_House_records, hf_records, x.hr, _, Fm.keys S.recs, rfl, .inl (sm _ _ hh.hr), emb_keys _, fun vs ps2 np2 hvs => ?_⟩
    have s1' := sm.trans (same_new (o := .lst vs) np2)
    have t1' := Same.ts (same_new (o := .lst vs) np2)
    have e1' : upd H2 ps2 (.lst vs) ps2 = some (.lst vs) := upd_same
    have D1' : upd H2 ps2 (.lst vs) D = some (.lst acc1) := by rw [upd_ne (ne_of_none hD np2)]; exact hD
    generalize upd H2 ps2 (.lst vs) = H3 at s1' t1' e1' D1'
    replace hvs := hvs.mono t1'
    replace hacc := hacc.mono t1'
    have hlen : vs.length = (Fm.sortT (Fm.keys S.recs)).length := by rw [hvs.length]; exact List.length_map ..
    refine ⟨ps2, rfl, ⟨_, SqL.of e1'⟩, fun D' nD' => ?_⟩
    have nD0' : H D' = none := s1'.free nD'
    have psD' : ps2 ≠ D' := ne_of_none e1' nD'
    have DD' : D ≠ D' := ne_of_none D1' nD'
    refine lc_it (walk_list (a := ps2) (xs := vs)) (fun j H' => Same H H' ∧ TS H3 H' ∧ H' ps2 = some (.lst vs) ∧ H' D = some (.lst acc1) ∧ ∃ acc, H' D' = some (.lst acc) ∧ DVs H' acc ((((Fm.sortT (Fm.keys S.recs)).take j).map (stRec S)).map dRec))
      ⟨s1'.trans (same_new nD'), Same.ts (same_new nD'), by rw [upd_ne psD']; exact e1', by rw [upd_ne DD']; exact D1', [], upd_same, .nil⟩ (fun j H' _ z => SqL.of z.2.2.1) ?_ ?_
    · rintro j v H5 H4 hj ⟨sm, t0, hp, hD0, acc, hD, hacc2⟩ ⟨rfl, hv⟩
      obtain ⟨c, t, rfl, ht, hc⟩ := dvs_th hvs hv
      have htk : t ∈ Fm.keys S.recs := Fm.mem_sortT.mp (List.mem_of_getElem? ht)
      obtain ⟨n, hn⟩ := Fm.dget_some htk
      have etk := take_succ_at ht
      have g := DGet.t (k := kP t) (sm _ _ hh.hr) (t0 _ _ hc)
      rw [emb_get kPi, hn] at g
      refine ⟨rfl, _, rfl, _, rfl, _, _, _, _, _, rfl, sm _ _ hh.ob, T.c_House, T.n_House_records, hf_records, _, rfl, x.hr, .int n, rfl, g, (by show 2 ≤ sizeLine; decide), fun p1 n1 => ?_⟩
      have s2 := sm.trans (same_new (o := .tup [.ref c, .int n]) n1)
      have t2 := Same.ts (same_new (o := .tup [.ref c, .int n]) n1)
      have k2 : upd H4 p1 (.tup [.ref c, .int n]) p1 = some (.tup [.ref c, .int n]) := upd_same
      have D2 : upd H4 p1 (.tup [.ref c, .int n]) D' = some (.lst acc) := by rw [upd_ne (ne_of_none hD n1)]; exact hD
      have P2 := keepL hp n1 (o := .tup [.ref c, .int n])
      have P2' := keepL hD0 n1 (o := .tup [.ref c, .int n])
      generalize upd H4 p1 (.tup [.ref c, .int n]) = H6 at s2 t2 k2 D2 P2 P2'
      have t6 := ts_put (o' := .lst (acc ++ [.ref p1])) D2 (by intro xs z; cases z)
      refine ⟨acc, D2, ?_, same_put s2 nD0', fun b xs e => t6 _ _ (t2 _ _ (t0 _ _ e)), by rw [upd_ne psD']; exact P2, by rw [upd_ne DD']; exact P2', _, upd_same, ?_⟩
      · rw [hacc2.length, List.length_map, List.length_map]
        have h2 := List.length_take_le' j (Fm.sortT (Fm.keys S.recs))
        have h3 := Fm.length_sortT (Fm.keys S.recs)
        have h4 : (Fm.keys S.recs).length = S.recs.length := List.length_map ..
        have h5 := hb.hr
        exact line_lt (by omega)
      · rw [etk, List.map_append, List.map_append]
        refine ((hacc2.mono t2).mono t6).snoc (.tup (t6 _ _ k2) (.cons (.mkTh (t6 _ _ (t2 _ _ (t0 _ _ hc)))) (.cons ?_ .nil)))
        rw [show (stRec S t).2 = n by unfold stRec; rw [hn]; rfl]
        exact .int n
    rintro H4 ⟨sm4, t0, _, hD0, acc2, hD2, hacc2⟩
    rw [hlen, List.take_length] at hacc2
    have hacc2 : DVs H4 acc2 ((S.state i).recs.map dRec) := hacc2
    replace hacc := hacc.mono t0
    -- the three tuples
    refine ⟨_, rfl, _, _, _, _, _, rfl, sm4 _ _ hh.ob, T.c_House, T.n_House_hand, hf_hand, x.hd, _, S.hand, rfl, .inl (sm4 _ _ hh.hd), hE_keys _, fun vs3 p3 n3 dv3 => ?_⟩
    have s5 := sm4.trans (same_new (o := .lst vs3) n3)
    have t5 := Same.ts (same_new (o := .lst vs3) n3)
    have k5 : upd H4 p3 (.lst vs3) p3 = some (.lst vs3) := upd_same
    have a5 := keepL hD0 n3 (o := .lst vs3)
    have b5 := keepL hD2 n3 (o := .lst vs3)
    generalize upd H4 p3 (.lst vs3) = H5 at s5 t5 k5 a5 b5
    refine .inl ⟨p3, vs3, rfl, SqL.of k5, fun q3 m3 => ?_⟩
    have s6 := s5.trans (same_new (o := .tup vs3) m3)
    have t6 := Same.ts (same_new (o := .tup vs3) m3)
    have k6 : upd H5 q3 (.tup vs3) q3 = some (.tup vs3) := upd_same
    have a6 := keepL a5 m3 (o := .tup vs3)
    have b6 := keepL b5 m3 (o := .tup vs3)
    generalize upd H5 q3 (.tup vs3) = H6 at s6 t6 k6 a6 b6
    refine ⟨_, rfl, .inl ⟨D, acc1, rfl, SqL.of a6, fun q4 m4 => ?_⟩⟩
    have s7 := s6.trans (same_new (o := .tup acc1) m4)
    have t7 := Same.ts (same_new (o := .tup acc1) m4)
    have k7 : upd H6 q4 (.tup acc1) q4 = some (.tup acc1) := upd_same
    have b7 := keepL b6 m4 (o := .tup acc1)
    generalize upd H6 q4 (.tup acc1) = H7 at s7 t7 k7 b7
    refine ⟨_, rfl, .inl ⟨D', acc2, rfl, SqL.of b7, fun q5 m5 => ?_⟩⟩
    have s8 := s7.trans (same_new (o := .tup acc2) m5)
    have t8 := Same.ts (same_new (o := .tup acc2) m5)
    have k8 : upd H7 q5 (.tup acc2) q5 = some (.tup acc2) := upd_same
    generalize upd H7 q5 (.tup acc2) = H8 at s8 t8 k8
    refine ⟨(by show 3 ≤ sizeLine; decide), fun q6 m6 => ?_⟩
    have t9 := Same.ts (same_new (o := .tup [.ref q3, .ref q4, .ref q5]) m6)
    refine q _ _ (s8.trans (same_new m6)) (.tup upd_same (.cons (.tup (t9 _ _ (t8 _ _ (t7 _ _ k6))) ?_) (.cons (.tup (t9 _ _ (t8 _ _ k7)) ?_) (.cons (.tup (t9 _ _ k8) ?_) .nil))))
    · exact ((((dv3.mono t5).mono t6).mono t7).mono t8).mono t9
    · exact ((((hacc.mono t5).mono t6).mono t7).mono t8).mono t9
    · exact ((((hacc2.mono t5).mono t6).mono t7).mono t8).mono t9
end
end Fh

set_option Elab.async false
set_option linter.all false
set_option maxRecDepth 100000
set_option maxHeartbeats 4000000
namespace Fh
open PySem PySem.Spec L2 FhR
open Fm (Th Hs StD Wd Er HG HB HSm Sts)
/-! ### dicts whose values are related -/
section
variable {κ β κ' : Type} [DecidableEq κ] [DecidableEq κ'] {f : κ → κ'} {G G' : V → β → Prop}
abbrev ERel (f : κ → κ') (G : V → β → Prop) (kvs : List (κ' × V)) (d : List (κ × β)) : Prop := Paired (fun kv e => kv.1 = f e.1 ∧ G kv.2 e.2) kvs d
theorem ERel.mono {kvs : List (κ' × V)} {d : List (κ × β)} (h : ERel f G kvs d) (k : ∀ v b, G v b → G' v b) : ERel f G' kvs d := paired_imp h fun _ _ _ _ z => ⟨z.1, k _ _ z.2⟩
theorem paired_len {α γ : Type} {F : α → γ → Prop} : ∀ {xs : List α} {ys : List γ}, Paired F xs ys → xs.length = ys.length
  | _, _, .nil => rfl
  | _, _, .cons _ r => congrArg (· + 1) (paired_len r)
theorem ERel.length {kvs : List (κ' × V)} {d : List (κ × β)} (h : ERel f G kvs d) : kvs.length = d.length := paired_len h
theorem ERel.keys : ∀ {kvs : List (κ' × V)} {d : List (κ × β)}, ERel f G kvs d → kvs.map (·.1) = (Fm.keys d).map f
  | _, _, .nil => rfl
  | _, _, .cons h r => by
    have := ERel.keys r
    unfold Fm.keys at this ⊢
    rw [List.map_cons, List.map_cons, List.map_cons, this, h.1]
theorem ERel.get (hf : ∀ a b, f a = f b → a = b) : ∀ {kvs : List (κ' × V)} {d : List (κ × β)}, ERel f G kvs d → ∀ k, (Fm.dget d k = none ∧ valV kvs (f k) = none) ∨ ∃ b v, Fm.dget d k = some b ∧ valV kvs (f k) = some v ∧ G v b
  | _, _, .nil, k => .inl ⟨rfl, rfl⟩
  | _, _, .cons (a := kv) (b := e) h r, k => by
    rw [Fm.dget_cons]
    by_cases c : e.1 = k
    · rw [if_pos c]
      exact .inr ⟨_, kv.2, rfl, valV_pos (by rw [h.1, c]), h.2⟩
    · rw [if_neg c, valV_neg (p := kv) (by rw [h.1]; exact fun z => c (hf _ _ z))]
      exact ERel.get hf r k
theorem ERel.at_ (hf : ∀ a b, f a = f b → a = b) {kvs : List (κ' × V)} {d : List (κ × β)} (h : ERel f G kvs d) {k : κ} {b : β} (e : Fm.dget d k = some b) : ∃ v, valV kvs (f k) = some v ∧ G v b := by
  rcases h.get hf k with ⟨z, _⟩ | ⟨b', v, z, hv, g⟩
  · rw [e] at z; cases z
  · rw [e] at z
    cases z
    exact ⟨v, hv, g⟩
theorem ERel.none_ (hf : ∀ a b, f a = f b → a = b) {kvs : List (κ' × V)} {d : List (κ × β)} (h : ERel f G kvs d) {k : κ} (e : Fm.dget d k = none) : valV kvs (f k) = none := by
  rcases h.get hf k with ⟨_, z⟩ | ⟨b', v, z, _⟩
  · exact z
  · rw [e] at z; cases z
theorem ERel.put (hf : ∀ a b, f a = f b → a = b) {kvs : List (κ' × V)} {d : List (κ × β)} (h : ERel f G kvs d) (k : κ) {v : V} {b : β} (g : G v b) : ERel f G (putK kvs (f k) v) (Fm.dput d k b) := by
  have ha : (kvs.any fun kv => decide (kv.1 = f k)) = d.any fun e => decide (e.1 = k) := by
    induction h with
    | nil => rfl
    | cons h0 _ ih =>
      rw [List.any_cons, List.any_cons, ih]
      congr 1
      exact decide_eq_decide.mpr (by rw [h0.1]; exact ⟨hf _ _, fun z => by rw [z]⟩)
  unfold putK Fm.dput
  rw [ha]
  split
  · clear ha
    rename_i hh
    clear hh
    induction h with
    | nil => exact .nil
    | @cons kv e _ _ h0 _ ih =>
      refine .cons ?_ ih
      show (if kv.1 = f k then (kv.1, v) else kv).1 = f (if e.1 = k then (e.1, b) else e).1 ∧ G (if kv.1 = f k then (kv.1, v) else kv).2 (if e.1 = k then (e.1, b) else e).2
      by_cases c : e.1 = k
      · rw [if_pos c, if_pos (by rw [h0.1, c])]
        exact ⟨h0.1, g⟩
      · rw [if_neg c, if_neg (by rw [h0.1]; exact fun z => c (hf _ _ z))]
        exact h0
  · exact paired_app h (.cons ⟨rfl, g⟩ .nil)
theorem ERel.drop (hf : ∀ a b, f a = f b → a = b) {kvs : List (κ' × V)} {d : List (κ × β)} (h : ERel f G kvs d) (k : κ) : ERel f G (dropK kvs (f k)) (Fm.ddrop d k) := by
  unfold dropK Fm.ddrop
  induction h with
  | nil => exact .nil
  | @cons kv e _ _ h0 _ ih =>
    rw [List.filter_cons, List.filter_cons]
    by_cases c : e.1 = k
    · have c2 : kv.1 = f k := by rw [h0.1, c]
      rw [if_neg (fun z => (of_decide_eq_true z : kv.1 ≠ f k) c2), if_neg (fun z => (of_decide_eq_true z : e.1 ≠ k) c)]
      exact ih
    · have c2 : kv.1 ≠ f k := by rw [h0.1]; exact fun z => c (hf _ _ z)
      rw [if_pos (decide_eq_true c), if_pos (decide_eq_true c2)]
      exact .cons h0 ih
end
/-! ### sorted: a list of things -/
section
variable {X : Cx}
def rSortL : List V → Hp → VK → Prop := fun xs H Q => ∃ (a : Addr) (vs : List V) (ts : List Th), xs = [.ref a] ∧ H a = some (.lst vs) ∧ DVs H vs (ts.map dTh) ∧
    ∀ ws p, H p = none → DVs H ws ((Fm.sortT ts).map dTh) → Q (.ref p) (upd H p (.lst ws))
theorem call_sortL : CallR X (.builtin "sorted") rSortL := by
  intro pins s σ H xs us Q I r q
  obtain ⟨a, vs, ts, e, ha, hv, q⟩ := q
  let k : V → Int × Int := fun v => match v with
    | .ref b => (match H b with | some (.tup [.int i, .int j]) => (i, j) | _ => (0, 0))
    | _ => (0, 0)
  have hk : ∀ (b : Addr) (t : Th), H b = some (.tup [.int t.1, .int t.2]) → k (.ref b) = t := fun b t h => by
    show (match H b with | some (.tup [.int i, .int j]) => (i, j) | _ => (0, 0)) = t
    rw [h]
  obtain ⟨bs, rfl, pr⟩ := hv.th
  have hbk : ∀ b ∈ bs, H b = some (.tup [.int (k (.ref b)).1, .int (k (.ref b)).2]) := by
    have : ∀ {bs : List Addr} {ts : List Th}, Paired (fun b t => H b = some (.tup [.int t.1, .int t.2])) bs ts → ∀ b ∈ bs, H b = some (.tup [.int (k (.ref b)).1, .int (k (.ref b)).2]) := by
      intro bs ts hp
      induction hp with
      | nil => intro b hb; cases hb
      | cons h _ ih =>
        intro b hb
        rcases List.mem_cons.mp hb with rfl | hb
        · rw [hk _ _ h]
          exact h
        · exact ih b hb
    exact this pr
  have hmap : (bs.map V.ref).map k = ts := by
    have : ∀ {bs : List Addr} {ts : List Th}, Paired (fun b t => H b = some (.tup [.int t.1, .int t.2])) bs ts → (bs.map V.ref).map k = ts := by
      intro bs ts hp
      induction hp with
      | nil => rfl
      | cons h _ ih =>
        rw [List.map_cons, List.map_cons, ih, hk _ _ h]
    exact this pr
  refine cr_sortedPO pins s σ H xs us Q I r ⟨a, _, k, e, SqL.of ha, fun x hx => ?_, fun ys p hs hst hp => ?_⟩
  · obtain ⟨b, hb, rfl⟩ := List.mem_map.mp hx
    exact ⟨b, rfl, hbk b hb⟩
  · have hperm := hst.perm
    obtain ⟨cs, hcs⟩ : ∃ cs : List Addr, ys = cs.map V.ref := by
      refine ⟨ys.map fun v => match v with | .ref b => b | _ => 0, ?_⟩
      rw [List.map_map]
      refine (List.map_id' _).symm.trans (List.map_congr_left fun v hv => ?_)
      obtain ⟨b, _, rfl⟩ := List.mem_map.mp (hperm.mem_iff.mp hv)
      rfl
    subst hcs
    refine q _ p hp (sorted_addrs hs ?_ fun b hb => ?_)
    · exact (hperm.map k).trans (List.Perm.of_eq hmap)
    · obtain ⟨c, hc, e⟩ := List.mem_map.mp (hperm.mem_iff.mp (List.mem_map.mpr ⟨b, hb, rfl⟩))
      cases e
      exact hbk b hc
end
/-! ### states of houses -/
abbrev SRel (H : Hp) (kvs : List (Key × V)) (s : Sts) : Prop := ERel Sum.inl (fun v st => DV H v (dSt st)) kvs s
/-- all but one object stand -/
def SB (p : Addr) (H H' : Hp) : Prop := ∀ b o, b ≠ p → H b = some o → H' b = some o
theorem SB.same {p : Addr} {H H' : Hp} {u : HO} (h : SB p H H') (e : H p = some u) : Same H (upd H' p u) := fun b o he => by
  by_cases c : b = p
  · rw [c, upd_same, ← e, ← c, he]
  · rw [upd_ne c]
    exact h b o c he
theorem SB.ts {p : Addr} {H H' : Hp} {kvs : List (Key × V)} (h : SB p H H') (e : H p = some (.dK kvs)) : TS H H' := fun b xs he => h b _ (ne_of he e (by intro z; cases z)) he
theorem split_at {α : Type} {l : List α} {j : Nat} {x : α} (h : l[j]? = some x) : l = l.take j ++ x :: l.drop (j + 1) := by
  obtain ⟨hj, ej⟩ := List.getElem?_eq_some_iff.mp h
  rw [← ej, ← List.drop_eq_getElem_cons hj, List.take_append_drop]
/-- the walk over a part of all states -/
theorem nest {K : PySem.W.Frag} {c : Int} {g : TG} {tb : L2.TS} {D : Ends} {H0 H : Hp} {p : Addr} {kvs : List (Key × V)} {s : Sts} {o1 v2 : Option V} {rest : List (Option V)} {α : Type} (items : StD → List α) (dat : α → PyData)
    (hp : H0 p = some (.dK kvs)) (sm : Same H0 H) (hs : SRel H0 kvs s) (hn : (Fm.keys s).Nodup)
    (hc : ∀ {st : StD} {H : Hp} {v : V}, DV H v (dSt st) → ∃ ps xs q ws, v = .ref ps ∧ H ps = some (.tup xs) ∧ atI xs c = some (.ref q) ∧ H q = some (.tup ws) ∧ DVs H ws ((items st).map dat))
    (Ex : List α → List (Option V) → Hp → Prop) (hl : ∀ od, Ex [] rest (upd H p (.frz od (.dK kvs))))
    (step : ∀ l x v v2 rest H' (od : Obj) (D' : Ends), (∃ l2, s.flatMap (fun e => items e.2) = l ++ x :: l2) → SB p H0 H' → H' p = some (.frz od (.dK kvs)) → Ex l rest H' → DV H' v (dat x) →
      (∀ v2' rest' H'', SB p H0 H'' → H'' p = some (.frz od (.dK kvs)) → Ex (l ++ [x]) rest' H'' → D'.nx (some (.ref p) :: o1 :: v2' :: rest') H'') → g v (some (.ref p) :: o1 :: v2 :: rest) H' fun σ2 H2 => tb D' σ2 H2)
    (fin : ∀ v2 rest H', SB p H0 H' → (∃ od : Obj, H' p = some (.frz od (.dK kvs))) → Ex (s.flatMap fun e => items e.2) rest H' → D.nx (some (.ref p) :: o1 :: v2 :: rest) (upd H' p (.dK kvs))) :
    tLock (tFor (iKeys (tVar 0)) (gName 2) (tFor (iTup K (tOp (rIxT K) (tDGet (tVar 0) (tVar 2)) (tC (.int c)))) g tb)) D (some (.ref p) :: o1 :: v2 :: rest) H := by
  refine ⟨p, _, sm _ _ hp, True.intro, fun od => ?_⟩
  refine ⟨_, rfl, p, od, rfl, .inl ⟨_, upd_same, ?_⟩⟩
  have sb0 : SB p H0 (upd H p (.frz od (.dK kvs))) := fun b o n e => by rw [upd_ne n]; exact sm _ _ e
  refine for_it (walk_keys (d := p) (o := od) (kvs := kvs)) (fun j σ H' => ∃ (v2 : Option V) (rest : List (Option V)), σ = some (.ref p) :: o1 :: v2 :: rest ∧ SB p H0 H' ∧ H' p = some (.frz od (.dK kvs)) ∧ Ex ((s.take j).flatMap fun e => items e.2) rest H')
    ⟨_, _, rfl, sb0, upd_same, hl od⟩ (fun j σ H' _ z => by obtain ⟨_, _, _, _, z, _⟩ := z; exact z) ?_ ?_
  · rintro j v σ H1 H2 hj ⟨v2, rest, rfl, sb, hfz, hex⟩ ⟨rfl, k, v', hk, rfl⟩
    obtain ⟨e, he, hke⟩ := paired_get hs hk
    obtain ⟨rfl, hdv⟩ := hke
    have hg : valV kvs (Sum.inl e.1) = some v' := by
      obtain ⟨v0, h0, _⟩ := hs.at_ inli (Fm.dget_of_mem hn (List.mem_of_getElem? he))
      have : ∀ {kvs : List (Key × V)} {s : Sts}, SRel H0 kvs s → (Fm.keys s).Nodup → ∀ {j : Nat} {v' : V} {e : Int × StD}, kvs[j]? = some ((Sum.inl e.1 : Key), v') → s[j]? = some e → valV kvs (Sum.inl e.1) = some v' := by
        intro kvs s hs hn
        induction hs with
        | nil => intro j v' e hk _; simp at hk
        | @cons kv e0 ks es h0 hr ih =>
          intro j v' e hk he
          obtain ⟨n1, n2⟩ := List.nodup_cons.mp (show (e0.1 :: Fm.keys es).Nodup from hn)
          cases j with
          | zero =>
            have e1 : kv = ((Sum.inl e.1 : Key), v') := Option.some.inj hk
            subst e1
            exact valV_pos rfl
          | succ j =>
            have h2 : es[j]? = some e := he
            have hne : kv.1 ≠ Sum.inl e.1 := by
              rw [h0.1]
              intro z
              have z' : e0.1 = e.1 := inli _ _ z
              exact n1 (z' ▸ Fm.mem_keys_of (List.mem_of_getElem? h2))
            rw [valV_neg (p := kv) hne]
            exact ih n2 (j := j) hk h2
      exact this hs hn hk he
    obtain ⟨ps, xs, q, ws, rfl, hps, hat, hq, hws⟩ := hc hdv
    refine ⟨_, rfl, _, rfl, p, .ref ps, rfl, .inl ⟨_, Sum.inl e.1, .inr ⟨od, hfz⟩, rfl, hg.symm⟩, _, _, _, _, rfl, rfl, SqT.of (sb.ts hp _ _ hps), hat, q, rfl, ⟨_, SqT.of (sb.ts hp _ _ hq)⟩, ?_⟩
    have hlen : ws.length = (items e.2).length := by rw [hws.length]; exact List.length_map ..
    have et := take_succ_at he
    refine for_it (walk_tup (a := q) (xs := ws)) (fun i σ H' => ∃ (v2 : Option V) (rest : List (Option V)), σ = some (.ref p) :: o1 :: v2 :: rest ∧ SB p H0 H' ∧ H' p = some (.frz od (.dK kvs)) ∧ Ex (((s.take j).flatMap fun e => items e.2) ++ (items e.2).take i) rest H')
      ⟨_, _, rfl, sb, hfz, by rw [List.take_zero, List.append_nil]; exact hex⟩ (fun i σ H' _ z => by obtain ⟨_, _, _, t, _⟩ := z; exact SqT.of (t.ts hp _ _ hq)) ?_ ?_
    · rintro i v σ H4 H3 hi ⟨v2, rest, rfl, sb2, hfz2, hex2⟩ ⟨rfl, hv⟩
      obtain ⟨d, hd, hdv2⟩ := (hws.mono (sb2.ts hp)).get hv
      obtain ⟨x, hx, rfl⟩ := map_at hd
      refine step _ x v v2 rest H3 od _ ⟨(items e.2).drop (i + 1) ++ (s.drop (j + 1)).flatMap (fun e => items e.2), ?_⟩ sb2 hfz2 hex2 hdv2 fun v2' rest' H'' sb3 hfz3 hex3 => ?_
      · have e1 : s = s.take j ++ e :: s.drop (j + 1) := by
          exact split_at he
        have e2 : items e.2 = (items e.2).take i ++ x :: (items e.2).drop (i + 1) := by
          exact split_at hx
        conv => lhs; rw [e1]
        rw [List.flatMap_append, List.flatMap_cons]
        conv => lhs; rw [e2]
        simp
      · refine ⟨v2', rest', rfl, sb3, hfz3, ?_⟩
        rw [take_succ_at hx, ← List.append_assoc]
        exact hex3
    · rintro σ H3 ⟨v2, rest, rfl, sb2, hfz2, hex2⟩
      refine ⟨v2, rest, rfl, sb2, hfz2, ?_⟩
      rw [hlen, List.take_length] at hex2
      rw [et, List.flatMap_append]
      simpa using hex2
  · rintro σ H' ⟨v2, rest, rfl, sb, hfz, hex⟩
    have hl2 : kvs.length = s.length := hs.length
    rw [hl2, List.take_length] at hex
    exact ⟨hfz, fin v2 rest H' sb ⟨od, hfz⟩ hex⟩
end Fh

set_option Elab.async false
set_option linter.all false
set_option maxRecDepth 100000
set_option maxHeartbeats 4000000
namespace Fm
/-- sizes of what is found from -/
structure SZ (s : Sts) : Prop where
  th : (allThings s).length ≤ 10000
  hd : (s.flatMap fun e => e.2.hand).length ≤ 10000
  rc : (s.flatMap fun e => e.2.recs).length ≤ 10000
  inn : ∀ e ∈ allThings s, e.2.2.length ≤ 1000
section
variable {κ β α : Type} [DecidableEq κ]
theorem foldl_dput_len (f : α → κ) (g : List (κ × β) → α → β) : ∀ (l : List α) (d : List (κ × β)), (l.foldl (fun d x => dput d (f x) (g d x)) d).length ≤ d.length + l.length
  | [], d => by simp
  | x :: l, d => by
    have h1 := foldl_dput_len f g l (dput d (f x) (g d x))
    have h2 := length_dput d (f x) (g d x)
    simp only [List.foldl_cons, List.length_cons]
    omega
end
theorem split_len {α : Type} {l a b : List α} {x : α} (h : l = a ++ x :: b) : a.length < l.length := by
  rw [h, List.length_append, List.length_cons]
  omega
end Fm
namespace Fh
open PySem PySem.Spec L2 FhR
open Fm (Th Hs StD Wd Er HG HB HSm Sts SZ)
theorem SB.put {p a : Addr} {H H' : Hp} {o : HO} (h : SB p H H') (n : H a = none) : SB p H (upd H' a o) := fun b u nb e => by
  rw [upd_ne (ne_of_none e n)]
  exact h b u nb e
theorem DV.tupE {H : Hp} {v : V} {ds : List PyData} (h : DV H v (.tuple ds)) : ∃ b ws, v = .ref b ∧ H b = some (.tup ws) ∧ DVs H ws ds := by
  cases h with
  | tup e r => exact ⟨_, _, rfl, e, r⟩
theorem DVs.consE {H : Hp} {vs : List V} {d : PyData} {ds : List PyData} (h : DVs H vs (d :: ds)) : ∃ v ws, vs = v :: ws ∧ DV H v d ∧ DVs H ws ds := by
  cases h with
  | cons a b => exact ⟨_, _, rfl, a, b⟩
theorem DVs.nilE {H : Hp} {vs : List V} (h : DVs H vs []) : vs = [] := by
  cases h
  rfl
theorem DV.intE {H : Hp} {v : V} {i : Int} (h : DV H v (.int i)) : v = .int i := by
  cases h
  rfl
theorem DV.strE {H : Hp} {v : V} {x : Str} (h : DV H v (.str x)) : v = .str x := by
  cases h
  rfl
theorem dst_at {H : Hp} {v : V} {st : StD} (h : DV H v (dSt st)) : ∃ ps q0 q1 q2 w0 w1 w2, v = .ref ps ∧ H ps = some (.tup [.ref q0, .ref q1, .ref q2]) ∧ (H q0 = some (.tup w0) ∧ DVs H w0 (st.hand.map dTh)) ∧ (H q1 = some (.tup w1) ∧ DVs H w1 (st.things.map dEnt)) ∧ H q2 = some (.tup w2) ∧ DVs H w2 (st.recs.map dRec) := by
  obtain ⟨ps, ws, rfl, hps, h⟩ := DV.tupE h
  obtain ⟨v0, ws, rfl, h0, h⟩ := h.consE
  obtain ⟨v1, ws, rfl, h1, h⟩ := h.consE
  obtain ⟨v2, ws, rfl, h2, h⟩ := h.consE
  cases h.nilE
  obtain ⟨q0, w0, rfl, e0, d0⟩ := DV.tupE h0
  obtain ⟨q1, w1, rfl, e1, d1⟩ := DV.tupE h1
  obtain ⟨q2, w2, rfl, e2, d2⟩ := DV.tupE h2
  exact ⟨ps, q0, q1, q2, w0, w1, w2, rfl, hps, ⟨e0, d0⟩, ⟨e1, d1⟩, e2, d2⟩
theorem dst_hand {st : StD} {H : Hp} {v : V} (h : DV H v (dSt st)) : ∃ ps xs q ws, v = .ref ps ∧ H ps = some (.tup xs) ∧ atI xs 0 = some (.ref q) ∧ H q = some (.tup ws) ∧ DVs H ws (st.hand.map dTh) := by
  obtain ⟨ps, q0, q1, q2, w0, w1, w2, rfl, e, h0, h1, h2⟩ := dst_at h
  exact ⟨ps, _, q0, w0, rfl, e, atI_nat (j := 0) rfl, h0⟩
theorem dst_things {st : StD} {H : Hp} {v : V} (h : DV H v (dSt st)) : ∃ ps xs q ws, v = .ref ps ∧ H ps = some (.tup xs) ∧ atI xs 1 = some (.ref q) ∧ H q = some (.tup ws) ∧ DVs H ws (st.things.map dEnt) := by
  obtain ⟨ps, q0, q1, q2, w0, w1, w2, rfl, e, h0, h1, h2⟩ := dst_at h
  exact ⟨ps, _, q1, w1, rfl, e, atI_nat (j := 1) rfl, h1⟩
theorem dst_recs {st : StD} {H : Hp} {v : V} (h : DV H v (dSt st)) : ∃ ps xs q ws, v = .ref ps ∧ H ps = some (.tup xs) ∧ atI xs 2 = some (.ref q) ∧ H q = some (.tup ws) ∧ DVs H ws (st.recs.map dRec) := by
  obtain ⟨ps, q0, q1, q2, w0, w1, w2, rfl, e, h0, h1, h2⟩ := dst_at h
  exact ⟨ps, _, q2, w2, rfl, e, atI_nat (j := 2) rfl, h2⟩
theorem dEntE {H : Hp} {v : V} {x : Th × Int × List Th} (h : DV H v (dEnt x)) : ∃ b c v2, v = .ref b ∧ H b = some (.tup [.ref c, .int x.2.1, v2]) ∧ H c = some (.tup [.int x.1.1, .int x.1.2]) ∧ DV H v2 (dThs x.2.2) := by
  obtain ⟨b, ws, rfl, hb, h⟩ := DV.tupE h
  obtain ⟨v0, ws, rfl, h0, h⟩ := h.consE
  obtain ⟨v1, ws, rfl, h1, h⟩ := h.consE
  obtain ⟨v2, ws, rfl, h2, h⟩ := h.consE
  cases h.nilE
  cases h1.intE
  obtain ⟨c, rfl, hc⟩ := h0.th
  exact ⟨b, c, v2, rfl, hb, hc, h2⟩
theorem dRecE {H : Hp} {v : V} {x : Th × Int} (h : DV H v (dRec x)) : ∃ b c, v = .ref b ∧ H b = some (.tup [.ref c, .int x.2]) ∧ H c = some (.tup [.int x.1.1, .int x.1.2]) := by
  obtain ⟨b, ws, rfl, hb, h⟩ := DV.tupE h
  obtain ⟨v0, ws, rfl, h0, h⟩ := h.consE
  obtain ⟨v1, ws, rfl, h1, h⟩ := h.consE
  cases h.nilE
  cases h1.intE
  obtain ⟨c, rfl, hc⟩ := h0.th
  exact ⟨b, c, rfl, hb, hc⟩
/-- what a def finds from states: a new dict -/
def spFind (r : Sts → Hp → HO → Prop) : Sp := fun vs H Q _ => ∃ (p : Addr) (kvs : List (Key × V)) (s : Sts), vs = [.ref p] ∧ H p = some (.dK kvs) ∧ SRel H kvs s ∧ (Fm.keys s).Nodup ∧ SZ s ∧
  ∀ H' q o, Same H H' → H q = none → H' q = some o → r s H' o → Q (.ref q) H'
abbrev hRel (H : Hp) (kvs : List (List Key × V)) (d : List (Th × List Th)) : Prop := ERel kP (fun v ts => DV H v (dThs ts)) kvs d
def rOuts (s : Sts) (_ : Hp) (o : HO) : Prop := o = .dT (eT (Fm.outsOf s))
def rSums (s : Sts) (_ : Hp) (o : HO) : Prop := o = .dT (eT (Fm.recorded s))
def rHolds (s : Sts) (H : Hp) (o : HO) : Prop := ∃ kvs, o = .dT kvs ∧ hRel H kvs (Fm.holdsOf s)
def rRoots (s : Sts) (_ : Hp) (o : HO) : Prop := o = .dT (hE (Fm.rootsOf s))
section
variable {P : Program} {w : World} {K : PySem.W.Frag} {mg : Str → Option Value} {base : Heap}
theorem scOuts : FnScope ["states", "outs", "house", "thing", "out", "holds"] ["states"] (defScope s_outs_of) := ⟨rfl, rfl, rfl, by decide +kernel, rfl, by decide +kernel, by decide +kernel⟩
theorem ok_outs_of (T : Tx K mg) : Ok P w K mg base 1 d_outs_of ["states"] (spFind rOuts) := by
  refine Ok.mk T 22 rfl ⟨rfl, rfl⟩ scOuts (fun vs H Q E h => ?_) (fun _ _ _ _ _ _ us hl => match us, hl with | [_], _ => rfl) (fun cdv A outer s H vs Q E hr h => ?_)
  · obtain ⟨p, kvs, st, rfl, _⟩ := h
    rfl
  · obtain ⟨p, kvs, st, rfl, hp, hs, hn, hz, q⟩ := h
    have hu := hu_of hr
    refine ⟨_, pss_cons (ps_set (i := 1) scOuts.nd rfl (.inl rfl) pe_dnewT)
      (pss_cons (ps_lock (ps_for (passes_of rfl) rfl (pi_keys (pv 0)) (pg_name (i := 2) scOuts.nd rfl (.inl rfl))
        (pss_one (ps_for (passes_of rfl) rfl (pi_tup (pe_ix ix_tup (pe_dget hu (pv 0) (pv 2) (fun _ _ => rfl)) pe_int (fun _ _ => rfl)))
          (pg_tup rfl (pgs_cons (pg_name (i := 3) scOuts.nd rfl (.inl rfl)) (pgs_cons (pg_name (i := 4) scOuts.nd rfl (.inl rfl)) (pgs_cons (pg_name (i := 5) scOuts.nd rfl (.inl rfl)) pgs_nil))))
          (pss_one (ps_dput hu (pv 1) (pv 3) (pv 4) rfl))))))
      (pss_one (ps_ret (pv 1)))), ?_⟩
    intro po no
    have s1 := same_new (o := .dT []) no
    have npo : p ≠ po := ne_of_none hp no
    refine nest (c := 1) (fun st => st.things) dEnt hp s1 hs hn dst_things
      (fun l rest H' => (∃ o3 o4 o5 : Option V, rest = [o3, o4, o5]) ∧ H' po = some (.dT (eT (l.foldl (fun d x => Fm.dput d x.1 x.2.1) []))))
      (fun od => ⟨⟨_, _, _, rfl⟩, by rw [upd_ne npo.symm]; exact upd_same⟩) ?_ ?_
    · rintro l x v v2 rest H' od D' ⟨l2, hl2⟩ sb hfz ⟨⟨o3, o4, o5, rfl⟩, hpo⟩ hdv k
      obtain ⟨b, c, v3, rfl, hb, hc, _⟩ := dEntE hdv
      have hlen : (l.foldl (fun d x => Fm.dput d x.1 x.2.1) ([] : List (Th × Int))).length ≤ 10000 := by
        have h1 := Fm.foldl_dput_len (fun x : Th × Int × List Th => x.1) (fun _ x => x.2.1) l []
        have h2 := Fm.split_len hl2
        have h3 := hz.th
        have h4 : (Fm.allThings st).length = (st.flatMap fun e => e.2.things).length := rfl
        simp only [List.length_nil] at h1
        omega
      refine ⟨b, _, rfl, SqT.of hb, rfl, _, _, rfl, _, _, rfl, _, _, rfl, rfl, ?_⟩
      refine ⟨_, rfl, _, rfl, _, rfl, po, _, rfl, DPut.t (k := kP x.1) hpo hc (by rw [emb_length, sizeLine_eq]; omega), ?_⟩
      rw [emb_put kPi]
      refine k _ _ _ (sb.put no) ?_ ⟨⟨_, _, _, rfl⟩, ?_⟩
      · rw [upd_ne npo]
        exact hfz
      · rw [upd_same, List.foldl_append]
        rfl
    · rintro v2 rest H' sb ⟨od, hfz⟩ ⟨⟨o3, o4, o5, rfl⟩, hpo⟩
      refine ⟨_, rfl, q _ po _ (sb.same hp) no ?_ rfl⟩
      rw [upd_ne npo.symm]
      exact hpo
theorem scHolds : FnScope ["states", "held", "house", "thing", "out", "holds"] ["states"] (defScope s_holds_of) := ⟨rfl, rfl, rfl, by decide +kernel, rfl, by decide +kernel, by decide +kernel⟩
theorem ok_holds_of (T : Tx K mg) : Ok P w K mg base 1 d_holds_of ["states"] (spFind rHolds) := by
  refine Ok.mk T 23 rfl ⟨rfl, rfl⟩ scHolds (fun vs H Q E h => ?_) (fun _ _ _ _ _ _ us hl => match us, hl with | [_], _ => rfl) (fun cdv A outer s H vs Q E hr h => ?_)
  · obtain ⟨p, kvs, st, rfl, _⟩ := h
    rfl
  · obtain ⟨p, kvs, st, rfl, hp, hs, hn, hz, q⟩ := h
    have hu := hu_of hr
    refine ⟨_, pss_cons (ps_set (i := 1) scHolds.nd rfl (.inl rfl) pe_dnewT)
      (pss_cons (ps_lock (ps_for (passes_of rfl) rfl (pi_keys (pv 0)) (pg_name (i := 2) scHolds.nd rfl (.inl rfl))
        (pss_one (ps_for (passes_of rfl) rfl (pi_tup (pe_ix ix_tup (pe_dget hu (pv 0) (pv 2) (fun _ _ => rfl)) pe_int (fun _ _ => rfl)))
          (pg_tup rfl (pgs_cons (pg_name (i := 3) scHolds.nd rfl (.inl rfl)) (pgs_cons (pg_name (i := 4) scHolds.nd rfl (.inl rfl)) (pgs_cons (pg_name (i := 5) scHolds.nd rfl (.inl rfl)) pgs_nil))))
          (pss_one (ps_dput hu (pv 1) (pv 3) (pv 5) rfl))))))
      (pss_one (ps_ret (pv 1)))), ?_⟩
    intro po no
    have s1 := same_new (o := .dT []) no
    have npo : p ≠ po := ne_of_none hp no
    refine nest (c := 1) (fun st => st.things) dEnt hp s1 hs hn dst_things
      (fun l rest H' => (∃ o3 o4 o5 : Option V, rest = [o3, o4, o5]) ∧ ∃ ws, H' po = some (.dT ws) ∧ hRel H' ws (l.foldl (fun d x => Fm.dput d x.1 x.2.2) []))
      (fun od => ⟨⟨_, _, _, rfl⟩, [], by rw [upd_ne npo.symm]; exact upd_same, .nil⟩) ?_ ?_
    · rintro l x v v2 rest H' od D' ⟨l2, hl2⟩ sb hfz ⟨⟨o3, o4, o5, rfl⟩, ws, hpo, hws⟩ hdv k
      obtain ⟨b, c, v3, rfl, hb, hc, hv3⟩ := dEntE hdv
      have hlen : (l.foldl (fun d x => Fm.dput d x.1 x.2.2) ([] : List (Th × List Th))).length ≤ 10000 := by
        have h1 := Fm.foldl_dput_len (fun x : Th × Int × List Th => x.1) (fun _ x => x.2.2) l []
        have h2 := Fm.split_len hl2
        have h3 := hz.th
        have h4 : (Fm.allThings st).length = (st.flatMap fun e => e.2.things).length := rfl
        simp only [List.length_nil] at h1
        omega
      refine ⟨b, _, rfl, SqT.of hb, rfl, _, _, rfl, _, _, rfl, _, _, rfl, rfl, ?_⟩
      refine ⟨_, rfl, _, rfl, _, rfl, po, _, rfl, DPut.t (k := kP x.1) hpo hc (by rw [hws.length, sizeLine_eq]; omega), ?_⟩
      have ts := ts_put (o' := .dT (putK ws (kP x.1) v3)) hpo (by intro xs z; cases z)
      refine k _ _ _ (sb.put no) ?_ ⟨⟨_, _, _, rfl⟩, _, upd_same, ?_⟩
      · rw [upd_ne npo]
        exact hfz
      · rw [List.foldl_append]
        exact (hws.mono fun v b g => g.mono ts).put kPi x.1 (hv3.mono ts)
    · rintro v2 rest H' sb ⟨od, hfz⟩ ⟨⟨o3, o4, o5, rfl⟩, ws, hpo, hws⟩
      have ts := ts_put (o' := .dK kvs) hfz (by intro xs z; cases z)
      refine ⟨_, rfl, q _ po _ (sb.same hp) no ?_ ⟨ws, rfl, hws.mono fun v b g => g.mono ts⟩⟩
      rw [upd_ne npo.symm]
      exact hpo
theorem scRecorded : FnScope ["states", "sums", "house", "thing", "weight"] ["states"] (defScope s_recorded) := ⟨rfl, rfl, rfl, by decide +kernel, rfl, by decide +kernel, by decide +kernel⟩
theorem ok_recorded (T : Tx K mg) : Ok P w K mg base 1 d_recorded ["states"] (spFind rSums) := by
  refine Ok.mk T 24 rfl ⟨rfl, rfl⟩ scRecorded (fun vs H Q E h => ?_) (fun _ _ _ _ _ _ us hl => match us, hl with | [_], _ => rfl) (fun cdv A outer s H vs Q E hr h => ?_)
  · obtain ⟨p, kvs, st, rfl, _⟩ := h
    rfl
  · obtain ⟨p, kvs, st, rfl, hp, hs, hn, hz, q⟩ := h
    have hu := hu_of hr
    refine ⟨_, pss_cons (ps_set (i := 1) scRecorded.nd rfl (.inl rfl) pe_dnewT)
      (pss_cons (ps_lock (ps_for (passes_of rfl) rfl (pi_keys (pv 0)) (pg_name (i := 2) scRecorded.nd rfl (.inl rfl))
        (pss_one (ps_for (passes_of rfl) rfl (pi_tup (pe_ix ix_tup (pe_dget hu (pv 0) (pv 2) (fun _ _ => rfl)) pe_int (fun _ _ => rfl)))
          (pg_tup rfl (pgs_cons (pg_name (i := 3) scRecorded.nd rfl (.inl rfl)) (pgs_cons (pg_name (i := 4) scRecorded.nd rfl (.inl rfl)) pgs_nil)))
          (pss_one (ps_dput hu (pv 1) (pv 3) (pe_op op_add (pe_dget2 hu (pv 1) (pv 3) pe_int ⟨rfl, rfl, rfl, rfl⟩) (pv 4)) rfl))))))
      (pss_one (ps_ret (pv 1)))), ?_⟩
    intro po no
    have s1 := same_new (o := .dT []) no
    have npo : p ≠ po := ne_of_none hp no
    refine nest (c := 2) (fun st => st.recs) dRec hp s1 hs hn dst_recs
      (fun l rest H' => (∃ o3 o4 : Option V, rest = [o3, o4]) ∧ H' po = some (.dT (eT (l.foldl (fun d x => Fm.dput d x.1 ((Fm.dget d x.1).getD 0 + x.2)) []))))
      (fun od => ⟨⟨_, _, rfl⟩, by rw [upd_ne npo.symm]; exact upd_same⟩) ?_ ?_
    · rintro l x v v2 rest H' od D' ⟨l2, hl2⟩ sb hfz ⟨⟨o3, o4, rfl⟩, hpo⟩ hdv k
      obtain ⟨b, c, rfl, hb, hc⟩ := dRecE hdv
      have hlen : (l.foldl (fun d x => Fm.dput d x.1 ((Fm.dget d x.1).getD 0 + x.2)) ([] : List (Th × Int))).length ≤ 10000 := by
        have h1 := Fm.foldl_dput_len (fun x : Th × Int => x.1) (fun d x => (Fm.dget d x.1).getD 0 + x.2) l []
        have h2 := Fm.split_len hl2
        have h3 := hz.rc
        simp only [List.length_nil] at h1
        omega
      refine ⟨b, _, rfl, SqT.of hb, rfl, _, _, rfl, _, _, rfl, rfl, ?_⟩
      refine ⟨_, rfl, po, rfl, .inr ⟨_, .inl hpo⟩, _, rfl, _, DGet.t (k := kP x.1) hpo hc, ?_⟩
      rw [emb_get kPi, getD_int]
      refine ⟨_, rfl, _, _, rfl, rfl, _, rfl, _, rfl, po, _, rfl, DPut.t (k := kP x.1) hpo hc (by rw [emb_length, sizeLine_eq]; omega), ?_⟩
      rw [emb_put kPi]
      refine k _ _ _ (sb.put no) ?_ ⟨⟨_, _, rfl⟩, ?_⟩
      · rw [upd_ne npo]
        exact hfz
      · rw [upd_same, List.foldl_append]
        rfl
    · rintro v2 rest H' sb ⟨od, hfz⟩ ⟨⟨o3, o4, rfl⟩, hpo⟩
      refine ⟨_, rfl, q _ po _ (sb.same hp) no ?_ rfl⟩
      rw [upd_ne npo.symm]
      exact hpo
end
end Fh

set_option Elab.async false
set_option linter.all false
set_option maxRecDepth 100000
set_option maxHeartbeats 4000000
namespace Fm
section
variable {κ β α : Type} [DecidableEq κ]
theorem nodup_foldl_dput (f : α → κ) (g : List (κ × β) → α → β) : ∀ (l : List α) (d : List (κ × β)), (keys d).Nodup → (keys (l.foldl (fun d x => dput d (f x) (g d x)) d)).Nodup
  | [], d, h => h
  | x :: l, d, h => nodup_foldl_dput f g l _ (nodup_dput h)
end
theorem nodup_outsOf (s : Sts) : (keys (outsOf s)).Nodup := nodup_foldl_dput (fun x : Th × Int × List Th => x.1) (fun _ x => x.2.1) _ [] .nil
theorem outsOf_len {s : Sts} (h : SZ s) : (outsOf s).length ≤ 10000 := by
  have h1 := foldl_dput_len (fun x : Th × Int × List Th => x.1) (fun _ x => x.2.1) (allThings s) []
  have h3 := h.th
  simp only [List.length_nil] at h1
  exact Nat.le_trans (show (outsOf s).length ≤ _ from h1) (by omega)
theorem holdsOf_len {s : Sts} (h : SZ s) : (holdsOf s).length ≤ 10000 := by
  have h1 := foldl_dput_len (fun x : Th × Int × List Th => x.1) (fun _ x => x.2.2) (allThings s) []
  have h3 := h.th
  simp only [List.length_nil] at h1
  exact Nat.le_trans (show (holdsOf s).length ≤ _ from h1) (by omega)
def rootN (s : Sts) (es : List (Th × Int)) : List Th := es.foldl (fun r e => if e.2 ≠ (dget (recorded s) e.1).getD 0 then hput r e.1 else r) ((s.flatMap fun e => e.2.hand).foldl hput [])
theorem rootN_len {s : Sts} (h : SZ s) : ∀ (es : List (Th × Int)), (rootN s es).length ≤ 10000 + es.length := by
  have k : ∀ (es : List (Th × Int)) (a : List Th), (es.foldl (fun r e => if e.2 ≠ (dget (recorded s) e.1).getD 0 then hput r e.1 else r) a).length ≤ a.length + es.length := by
    intro es
    induction es with
    | nil => intro a; simp
    | cons e r ih =>
      intro a
      have h1 := ih (if e.2 ≠ (dget (recorded s) e.1).getD 0 then hput a e.1 else a)
      have h2 : (if e.2 ≠ (dget (recorded s) e.1).getD 0 then hput a e.1 else a).length ≤ a.length + 1 := by
        split
        · exact hput_len a e.1
        · omega
      simp only [List.foldl_cons, List.length_cons]
      omega
  intro es
  have h1 := k es ((s.flatMap fun e => e.2.hand).foldl hput [])
  have h2 := foldl_hput_len (s.flatMap fun e => e.2.hand) []
  have h3 := h.hd
  simp only [List.length_nil] at h2
  exact Nat.le_trans h1 (by omega)
theorem edges_mem {κ : Type} {hd : List (κ × List Th)} (h : ∀ e ∈ hd, e.2.length ≤ 1000) : edges hd ≤ 1000 * hd.length := by
  induction hd with
  | nil => exact Nat.zero_le _
  | cons e r ih =>
    have h1 := ih fun x hx => h x (List.mem_cons_of_mem _ hx)
    have h2 := h e List.mem_cons_self
    unfold edges at h1 ⊢
    simp only [List.map_cons, List.sum_cons, List.length_cons]
    omega
theorem dput_val {κ β : Type} [DecidableEq κ] {d : List (κ × β)} {k : κ} {v : β} {e : κ × β} (h : e ∈ dput d k v) : e ∈ d ∨ e.2 = v := by
  unfold dput at h
  split at h
  · obtain ⟨x, hx, rfl⟩ := List.mem_map.mp h
    split
    · exact .inr rfl
    · exact .inl hx
  · rcases List.mem_append.mp h with z | z
    · exact .inl z
    · have : e = (k, v) := by simpa using z
      exact .inr (by rw [this])
theorem holdsOf_val {s : Sts} {e : Th × List Th} (h : e ∈ holdsOf s) : ∃ x ∈ allThings s, e.2 = x.2.2 := by
  have k : ∀ (l : List (Th × Int × List Th)) (d : List (Th × List Th)), e ∈ l.foldl (fun d x => dput d x.1 x.2.2) d → e ∈ d ∨ ∃ x ∈ l, e.2 = x.2.2 := by
    intro l
    induction l with
    | nil => intro d h; exact .inl h
    | cons x r ih =>
      intro d h
      rcases ih _ h with z | ⟨y, hy, z⟩
      · rcases dput_val z with z | z
        · exact .inl z
        · exact .inr ⟨x, List.mem_cons_self, z⟩
      · exact .inr ⟨y, List.mem_cons_of_mem _ hy, z⟩
  rcases k _ _ h with z | z
  · cases z
  · exact z
end Fm
namespace Fh
open PySem PySem.Spec L2 FhR
open Fm (Th Hs StD Wd Er HG HB HSm Sts SZ)
section
variable {P : Program} {w : World} {K : PySem.W.Frag} {mg : Str → Option Value} {base : Heap}
theorem scRoots : FnScope ["states", "roots", "house", "thing", "outs", "sums"] ["states"] (defScope s_roots_of) := ⟨rfl, rfl, rfl, by decide +kernel, rfl, by decide +kernel, by decide +kernel⟩
theorem ok_roots_of (T : Tx K mg) : Ok P w K mg base 2 d_roots_of ["states"] (spFind rRoots) := by
  obtain ⟨f1, F1, b1, k1⟩ := ok_outs_of (P := P) (w := w) (base := base) T
  obtain ⟨f2, F2, b2, k2⟩ := ok_recorded (P := P) (w := w) (base := base) T
  refine Ok.mk T 25 rfl ⟨rfl, rfl⟩ scRoots (fun vs H Q E h => ?_) (fun _ _ _ _ _ _ us hl => match us, hl with | [_], _ => rfl) (fun cdv A outer s H vs Q E hr h => ?_)
  · obtain ⟨p, kvs, st, rfl, _⟩ := h
    rfl
  · obtain ⟨p, kvs, st, rfl, hp, hs, hn, hz, q⟩ := h
    have hu := hu_of hr
    refine ⟨_, pss_cons (ps_set (i := 1) scRoots.nd rfl (.inl rfl) pe_dnewT)
      (pss_cons (ps_lock (ps_for (passes_of rfl) rfl (pi_keys (pv 0)) (pg_name (i := 2) scRoots.nd rfl (.inl rfl))
        (pss_one (ps_for (passes_of rfl) rfl (pi_tup (pe_ix ix_tup (pe_dget hu (pv 0) (pv 2) (fun _ _ => rfl)) pe_int (fun _ _ => rfl)))
          (pg_name (i := 3) scRoots.nd rfl (.inl rfl))
          (pss_one (ps_dput hu (pv 1) (pv 3) pe_bl rfl))))))
      (pss_cons (ps_set (i := 4) scRoots.nd rfl (.inl rfl) (pe_call F1 hr rfl T.g_outs_of k1 b1 .nil passL (pa_cons (pv 0) pa_nil)))
      (pss_cons (ps_set (i := 5) scRoots.nd rfl (.inl rfl) (pe_call F2 hr rfl T.g_recorded k2 b2 .nil passL (pa_cons (pv 0) pa_nil)))
      (pss_cons (ps_lock (ps_for (passes_of rfl) rfl (pi_keys (pv 4)) (pg_name (i := 3) scRoots.nd rfl (.inl rfl))
        (pss_one (ps_if (pt_cmpR op_ne (pe_dget hu (pv 4) (pv 3) (fun _ _ => rfl)) (pe_dget2 hu (pv 5) (pv 3) pe_int ⟨rfl, rfl, rfl, rfl⟩) (nomark _))
          (pss_one (ps_dput hu (pv 1) (pv 3) pe_bl rfl)) pss_nil))))
      (pss_one (ps_ret (pv 1))))))), ?_⟩
    intro po no
    have s1 := same_new (o := .dT []) no
    have npo : p ≠ po := ne_of_none hp no
    refine nest (c := 0) (fun st => st.hand) dTh hp s1 hs hn dst_hand
      (fun l rest H' => (∃ o3 : Option V, rest = [o3, none, none]) ∧ H' po = some (.dT (hE (l.foldl Fm.hput []))))
      (fun od => ⟨⟨_, rfl⟩, by rw [upd_ne npo.symm]; exact upd_same⟩) ?_ ?_
    · rintro l x v v2 rest H' od D' ⟨l2, hl2⟩ sb hfz ⟨⟨o3, rfl⟩, hpo⟩ hdv k
      obtain ⟨c, rfl, hc⟩ := hdv.th
      have hlen : (l.foldl Fm.hput ([] : List Th)).length ≤ 10000 := by
        have h1 := Fm.foldl_hput_len l []
        have h2 := Fm.split_len hl2
        have h3 := hz.hd
        simp only [List.length_nil] at h1
        omega
      refine ⟨_, rfl, _, rfl, po, _, rfl, DPut.t (k := kP x) hpo hc (by rw [hE_length, sizeLine_eq]; omega), ?_⟩
      rw [hE_put]
      refine k _ _ _ (sb.put no) ?_ ⟨⟨_, rfl⟩, ?_⟩
      · rw [upd_ne npo]
        exact hfz
      · rw [upd_same, List.foldl_append]
        rfl
    · rintro v2 rest H' sb ⟨od, hfz⟩ ⟨⟨o3, rfl⟩, hpo⟩
      have sm1 := sb.same hp
      have e1 : upd H' p (.dK kvs) po = some (.dT (hE ((st.flatMap fun e => e.2.hand).foldl Fm.hput []))) := by
        rw [upd_ne npo.symm]
        exact hpo
      have e0 : upd H' p (.dK kvs) p = some (.dK kvs) := upd_same
      generalize upd H' p (.dK kvs) = H1 at sm1 e1 e0
      refine ⟨_, rfl, p, kvs, st, rfl, e0, hs.mono fun v b g => g.mono (Same.ts sm1), hn, hz, fun H2 qo o sm2 no2 e2 r2 => ?_⟩
      cases r2
      have sm3 := sm1.trans sm2
      have nqo := ne_of_none e1 no2
      refine ⟨_, rfl, p, kvs, st, rfl, sm3 _ _ hp, hs.mono fun v b g => g.mono (Same.ts sm3), hn, hz, fun H3 qs o sm4 no4 e4 r4 => ?_⟩
      cases r4
      have sm5 := sm3.trans sm4
      have nqs : po ≠ qs := ne_of_none (sm2 _ _ e1) no4
      have nqos : qo ≠ qs := ne_of_none e2 no4
      have n0qo : H qo = none := sm1.free no2
      have n0qs : H qs = none := sm3.free no4
      have p3 : H3 po = some (.dT (hE (Fm.rootN st []))) := sm4 _ _ (sm2 _ _ e1)
      have q3 : H3 qo = some (.dT (eT (Fm.outsOf st))) := sm4 _ _ e2
      -- for thing in outs
      refine ⟨qo, _, q3, True.intro, fun od2 => ?_⟩
      refine ⟨_, rfl, qo, od2, rfl, .inr ⟨_, upd_same, ?_⟩⟩
      refine for_it (walk_keysT (d := qo) (o := od2) (kvs := eT (Fm.outsOf st))) (fun j σ H' => ∃ v3 : Option V, σ = [some (.ref p), some (.ref po), v2, v3, some (.ref qo), some (.ref qs)] ∧ SB qo H H' ∧ H' qo = some (.frz od2 (.dT (eT (Fm.outsOf st)))) ∧ H' qs = some (.dT (eT (Fm.recorded st))) ∧ H' po = some (.dT (hE (Fm.rootN st ((Fm.outsOf st).take j)))))
        ⟨_, rfl, fun b o n e => by rw [upd_ne n]; exact sm5 _ _ e, upd_same, by rw [upd_ne nqos.symm]; exact e4, by rw [upd_ne nqo]; exact p3⟩ (fun j σ H' _ z => by obtain ⟨_, _, _, z, _⟩ := z; exact z) ?_ ?_
      · rintro j v σ H4 H5 hj ⟨v3, rfl, sb2, hfz2, hqs, hpo2⟩ ⟨rfl, k, v', b, hk, rfl, hb⟩
        obtain ⟨e, he, rfl, rfl⟩ := emb_at hk
        have dg : Fm.dget (Fm.outsOf st) e.1 = some e.2 := Fm.dget_of_mem (Fm.nodup_outsOf st) (List.mem_of_getElem? he)
        have hb' : H5 b = some (.tup [.int e.1.1, .int e.1.2]) := hb
        have gq := DGet.t (k := kP e.1) hqs hb'
        have et := take_succ_at he
        have hlen : (Fm.rootN st ((Fm.outsOf st).take j)).length ≤ 20000 := by
          have h1 := Fm.rootN_len hz ((Fm.outsOf st).take j)
          have h2 := List.length_take_le' j (Fm.outsOf st)
          have h3 := Fm.outsOf_len hz
          omega
        refine ⟨_, rfl, _, rfl, qo, .int e.2, rfl, .inr ⟨_, kP e.1, b, .inr ⟨od2, hfz2⟩, rfl, hb', by rw [emb_get kPi, dg]; rfl⟩, _, rfl, qs, rfl, .inr ⟨_, .inl hqs⟩, _, rfl, _, gq, ?_⟩
        rw [emb_get kPi, getD_int]
        refine ⟨rfl, _, rfl, ?_⟩
        rw [decV]
        by_cases c : e.2 = (Fm.dget (Fm.recorded st) e.1).getD 0
        · rw [decide_eq_true c]
          refine iteF ⟨_, rfl, sb2, hfz2, hqs, ?_⟩
          rw [et]
          unfold Fm.rootN at hpo2 ⊢
          rw [List.foldl_append]
          simp only [List.foldl_cons, List.foldl_nil]
          rw [if_neg fun h => h c]
          exact hpo2
        · rw [decide_eq_false c]
          refine iteT ⟨_, rfl, _, rfl, po, _, rfl, DPut.t (k := kP e.1) hpo2 hb' (by rw [hE_length, sizeLine_eq]; omega), ?_⟩
          rw [hE_put]
          refine ⟨_, rfl, sb2.put no, by rw [upd_ne nqo.symm]; exact hfz2, by rw [upd_ne nqs.symm]; exact hqs, ?_⟩
          rw [upd_same, et]
          unfold Fm.rootN
          rw [List.foldl_append]
          simp only [List.foldl_cons, List.foldl_nil]
          rw [if_pos c]
      · rintro σ H4 ⟨v3, rfl, sb2, hfz2, hqs, hpo2⟩
        rw [emb_length, List.take_length] at hpo2
        refine ⟨hfz2, _, rfl, q _ po _ (fun b o e => ?_) no ?_ rfl⟩
        · have nb := ne_of_none e n0qo
          rw [upd_ne nb]
          exact sb2 _ _ nb e
        · rw [upd_ne nqo]
          exact hpo2
end
end Fh

set_option Elab.async false
set_option linter.all false
set_option maxRecDepth 100000
set_option maxHeartbeats 4000000
namespace Fh
open PySem PySem.Spec L2 FhR
open Fm (Th Hs StD Wd Er HG HB HSm Sts SZ)
theorem dTh_shape (t : Th) : (dTh t).canLay0 = true ∧ (dTh t).depth ≤ 60 := by
  unfold dTh
  exact ⟨by simp [PyData.canLay0, PyData.canLayAll0], by simp [PyData.depth, PyData.depthAll]⟩
theorem dvs_of_keys {H : Hp} {l : List Th} {bs : List Addr} (h : IsKeys H (hE l) bs) : DVs H (bs.map V.ref) (l.map dTh) := by
  unfold IsKeys hE at h
  induction l generalizing bs with
  | nil => cases h; exact .nil
  | cons t r ih =>
    cases h with
    | cons h0 hr => exact .cons (.mkTh h0) (ih hr)
theorem DVs.dropLast {H : Hp} : ∀ {vs : List V} {ds : List PyData}, DVs H vs ds → DVs H vs.dropLast ds.dropLast
  | _, _, .nil => .nil
  | _, _, .cons _ .nil => .nil
  | _, _, .cons h (.cons h2 r) => .cons h (DVs.dropLast (.cons h2 r))
def spReach : Sp := fun vs H Q _ => ∃ (pr ph : Addr) (roots : List Th) (kvs : List (List Key × V)) (hd : List (Th × List Th)), vs = [.ref pr, .ref ph] ∧ H pr = some (.dT (hE roots)) ∧ H ph = some (.dT kvs) ∧ hRel H kvs hd ∧
  roots.length + Fm.edges hd ≤ 16000000 ∧
  ∀ H' r, Same H H' → H r = none → H' r = some (.dT (hE (Fm.reachedFrom roots hd))) → Q (.ref r) H'
section
variable {P : Program} {w : World} {K : PySem.W.Frag} {mg : Str → Option Value} {base : Heap}
theorem scReach : FnScope ["roots", "held", "reached", "left", "thing"] ["roots", "held"] (defScope s_reached_from) := ⟨rfl, rfl, rfl, by decide +kernel, rfl, by decide +kernel, by decide +kernel⟩
theorem ok_reached_from (T : Tx K mg) : Ok P w K mg base 1 d_reached_from ["roots", "held"] spReach := by
  refine Ok.mk T 26 rfl ⟨rfl, rfl⟩ scReach (fun vs H Q E h => ?_) (fun _ _ _ _ _ _ us hl => match us, hl with | [_, _], _ => rfl) (fun cdv A outer s H vs Q E hr h => ?_)
  · obtain ⟨pr, ph, roots, kvs, hd, rfl, _⟩ := h
    rfl
  · obtain ⟨pr, ph, roots, kvs, hd, rfl, hpr, hph, hh, hz, q⟩ := h
    have hu := hu_of hr
    refine ⟨_, pss_cons (ps_set (i := 2) scReach.nd rfl (.inl rfl) pe_dnewT)
      (pss_cons (ps_set (i := 3) scReach.nd rfl (.inl rfl) (pe_callTy (call_list_dT rfl) rfl T.f_list PyProof.Rows.boot_list (pa_cons (pv 0) pa_nil)))
      (pss_cons (ps_while (passes_of rfl) (pt_cmpR (op_neD hr.units) (pv 3) (pe_lst pa_nil) (nomark _))
        (pss_cons (ps_set (i := 4) scReach.nd rfl (.inl rfl) (pe_bm0 PySem.F.plainAttrs_list PySem.F.slot_list_pop PySem.F.type_list_pop mt_pop (pv 3)))
        (pss_one (ps_if (pw_and (pt_cmp (pc_din hu (pv 4) (pv 1))) (pw_and1 (pt_cmp (pc_dnotin hu (pv 4) (pv 2))))).pt
          (pss_cons (ps_dput hu (pv 2) (pv 4) pe_bl rfl)
          (pss_one (ps_expr (pe_bm PySem.F.plainAttrs_list PySem.F.slot_list_extend PySem.F.type_list_extend mt_extT (pv 3) (pa_cons (pe_dget hu (pv 1) (pv 4) (fun _ _ => rfl)) pa_nil))))) pss_nil))))
      (pss_one (ps_ret (pv 2))))), ?_⟩
    intro pd nd
    have s1 := same_new (o := .dT []) nd
    refine ⟨_, rfl, pr, _, rfl, .inl (s1 _ _ hpr), fun pl bs nl hbs => ?_⟩
    have s2 := s1.trans (same_new (o := .lst (bs.map V.ref)) nl)
    have nl0 : H pl = none := s1.free nl
    have nld : pl ≠ pd := fun z => by
      rw [z, upd_same] at nl
      cases nl
    have dbs := (dvs_of_keys hbs).mono (Same.ts (same_new (o := .lst (bs.map V.ref)) nl))
    have hd0 : upd (upd H pd (.dT [])) pl (.lst (bs.map V.ref)) pd = some (.dT (hE [])) := by
      rw [upd_ne nld.symm]
      exact upd_same
    refine ⟨fun f σ H' => ∃ (r l : List Th) (vs : List V) (v4 : Option V), σ = [some (.ref pr), some (.ref ph), some (.ref pd), some (.ref pl), v4] ∧ Same H H' ∧ H' pd = some (.dT (hE r)) ∧ H' pl = some (.lst vs) ∧ DVs H' vs (l.map dTh) ∧
        Fm.farLoop hd f r l = Fm.reachedFrom roots hd ∧ Fm.fphi hd r l < f ∧ r.length + f ≤ 16000001 ∧ l.length + Fm.restLen hd r ≤ 16000000,
      ⟨_, [], roots, _, none, rfl, s2, hd0, upd_same, dbs, rfl, Fm.fphi_start hd roots, by simp only [List.length_nil]; omega, by rw [Fm.restLen_nil]; exact hz⟩, ?_⟩
    rintro f σ H1 ⟨r, l, vs, v4, rfl, sm, h1, h2, hvs, hf, hphi, hrn, hlen⟩
    refine ⟨_, rfl, (by show 0 ≤ sizeLine; exact Nat.zero_le _), fun p np => ?_⟩
    have sm1 := sm.trans (same_new (o := .lst []) np)
    have hvs1 := hvs.mono (Same.ts (same_new (o := .lst []) np))
    have g1 := keepL h1 np (o := .lst [])
    have g2 := keepL h2 np (o := .lst [])
    have np1 : upd H1 p (.lst []) p = some (.lst []) := upd_same
    generalize upd H1 p (.lst []) = H2 at sm1 hvs1 g1 g2 np1
    refine ⟨.list (l.map dTh), .list [], .lst (SqL.of g2) hvs1.dp, .lst (SqL.of np1) .nil, shaped_list (fun d hd => ?_), shaped_nil, _, rfl, ?_⟩
    · obtain ⟨t, _, rfl⟩ := List.mem_map.mp hd
      exact dTh_shape t
    rw [eqv_nil]
    cases hlast : l.getLast? with
    | none =>
      have e : l = [] := List.getLast?_eq_none_iff.mp hlast
      subst e
      refine iteF ⟨_, rfl, q _ pd sm1 nd ?_⟩
      obtain ⟨f', rfl⟩ : ∃ f', f = f' + 1 := ⟨f - 1, by omega⟩
      rw [Fm.farLoop_none hlast] at hf
      rw [← hf]
      exact g1
    | some t =>
      have es := Fm.getLast?_split hlast
      have hne : l ≠ [] := fun z => by rw [z] at hlast; cases hlast
      have e1 : (!(l.map dTh).isEmpty) = true := by
        cases l with
        | nil => exact absurd rfl hne
        | cons a t => rfl
      rw [e1]
      obtain ⟨f', rfl⟩ : ∃ f', f = f' + 1 := ⟨f - 1, by omega⟩
      have hvl : vs.length = l.length := by rw [hvs1.length]; exact List.length_map ..
      have hldl : l.dropLast.length + 1 = l.length := by
        have := congrArg List.length es
        rw [List.length_append, List.length_singleton] at this
        omega
      obtain ⟨v, hv, hdv⟩ := hvs1.get' (i := vs.length - 1) (d := dTh t) (by rw [hvl, List.getElem?_map, ← List.getLast?_eq_getElem?, hlast]; rfl)
      obtain ⟨c, rfl, hc⟩ := hdv.th
      refine iteT ⟨fun σ' H' => ∃ m', m' < f' + 1 ∧ ∃ (r l : List Th) (vs : List V) (v4 : Option V), σ' = [some (.ref pr), some (.ref ph), some (.ref pd), some (.ref pl), v4] ∧ Same H H' ∧ H' pd = some (.dT (hE r)) ∧ H' pl = some (.lst vs) ∧ DVs H' vs (l.map dTh) ∧
        Fm.farLoop hd m' r l = Fm.reachedFrom roots hd ∧ Fm.fphi hd r l < m' ∧ r.length + m' ≤ 16000001 ∧ l.length + Fm.restLen hd r ≤ 16000000, fun σ' H' h => h, ?_⟩
      -- thing = left.pop()
      refine ⟨_, rfl, .inl ⟨rfl, _, SqL.of g2⟩, pl, _, _, rfl, rfl, g2, hv, ?_⟩
      have sm2 : Same H (upd H2 pl (.lst vs.dropLast)) := same_put sm1 nl0
      have tp2 := ts_put (o' := .lst vs.dropLast) g2 (by intro xs z; cases z)
      have hdl : DVs (upd H2 pl (.lst vs.dropLast)) vs.dropLast (l.dropLast.map dTh) := by
        have := (hvs1.mono tp2).dropLast
        rw [← List.map_dropLast] at this
        exact this
      have g3 : upd H2 pl (.lst vs.dropLast) pd = some (.dT (hE r)) := by rw [upd_ne nld.symm]; exact g1
      have g4 : upd H2 pl (.lst vs.dropLast) pl = some (.lst vs.dropLast) := upd_same
      have hc2 := tp2 _ _ hc
      generalize upd H2 pl (.lst vs.dropLast) = H3 at sm2 tp2 hdl g3 g4 hc2
      have hphl : ∀ l : List Th, Fm.fphi hd r l.dropLast = Fm.fphi hd r l.dropLast := fun _ => rfl
      refine ⟨_, rfl, _, rfl, ph, _, rfl, DGet.t (k := kP t) (sm2 _ _ hph) hc2, _, rfl, ?_⟩
      rcases hh.get kPi t with ⟨dn, en⟩ | ⟨ts, vt, dn, en, gt⟩
      · rw [en]
        rw [Fm.farLoop_skip hlast dn] at hf
        refine iteF (iteF ⟨f', Nat.lt_succ_self _, r, l.dropLast, _, _, rfl, sm2, g3, g4, hdl, hf, ?_, by omega, by omega⟩)
        have := Fm.fphi_skip (hd := hd) (r := r) hlast
        omega
      · rw [en]
        rw [Fm.farLoop_some hlast dn] at hf
        refine iteT ⟨_, rfl, _, rfl, pd, _, rfl, DGet.t (k := kP t) g3 hc2, _, rfl, ?_⟩
        rw [hE_get]
        by_cases hm : t ∈ r
        · rw [if_pos hm] at hf ⊢
          refine iteF ⟨f', Nat.lt_succ_self _, r, l.dropLast, _, _, rfl, sm2, g3, g4, hdl, hf, ?_, by omega, by omega⟩
          have := Fm.fphi_skip (hd := hd) (r := r) hlast
          omega
        · rw [if_neg hm] at hf ⊢
          refine iteT ⟨_, rfl, _, rfl, pd, _, rfl, DPut.t (k := kP t) g3 hc2 (by rw [hE_length, sizeLine_eq]; omega), ?_⟩
          rw [hE_put, show Fm.hput r t = r ++ [t] from if_neg hm]
          have sm4 : Same H (upd H3 pd (.dT (hE (r ++ [t])))) := same_put sm2 nd
          have tp4 := ts_put (o' := .dT (hE (r ++ [t]))) g3 (by intro xs z; cases z)
          have k3 : upd H3 pd (.dT (hE (r ++ [t]))) pd = some (.dT (hE (r ++ [t]))) := upd_same
          have k4 : upd H3 pd (.dT (hE (r ++ [t]))) pl = some (.lst vs.dropLast) := by rw [upd_ne nld]; exact g4
          generalize upd H3 pd (.dT (hE (r ++ [t]))) = H4 at sm4 tp4 k3 k4
          obtain ⟨pt, ws, rfl, hpt, hws⟩ := DV.tupE gt
          have gd := DGet.t (k := kP t) (sm4 _ _ hph) (tp4 _ _ hc2)
          rw [en] at gd
          have hr2 := Fm.restLen_drop hd r t hm dn
          have hwl : ws.length = ts.length := by rw [hws.length]; exact List.length_map ..
          have hdl2 : vs.dropLast.length = l.dropLast.length := by rw [hdl.length]; exact List.length_map ..
          refine ⟨_, rfl, .inl ⟨rfl, _, SqL.of k4⟩, _, rfl, _, rfl, ph, _, rfl, gd, pl, pt, _, ws, rfl, rfl, k4, sm4 _ _ hpt, ?_, ?_⟩
          · rw [sizeLine_eq, hwl, hdl2]
            omega
          · have tp5 := ts_put (o' := .lst (vs.dropLast ++ ws)) k4 (by intro xs z; cases z)
            refine ⟨f', Nat.lt_succ_self _, r ++ [t], l.dropLast ++ ts, _, _, rfl, same_put sm4 nl0, by rw [upd_ne nld.symm]; exact k3, upd_same, ?_, hf, ?_, ?_, ?_⟩
            · rw [List.map_append]
              exact ((hdl.mono tp4).mono tp5).append ((hws.mono (Same.ts sm4)).mono tp5)
            · have := Fm.fphi_new (hd := hd) hlast hm dn
              omega
            · rw [List.length_append, List.length_singleton]
              omega
            · rw [List.length_append]
              omega
def spUnreached : Sp := fun vs H Q _ => ∃ (p : Addr) (kvs : List (Key × V)) (s : Sts), vs = [.ref p] ∧ H p = some (.dK kvs) ∧ SRel H kvs s ∧ (Fm.keys s).Nodup ∧ SZ s ∧
  ∀ H' v, Same H H' → DV H' v (dThs (Fm.unreached s)) → Q v H'
theorem scUnreached : FnScope ["states", "held", "reached", "thing"] ["states"] (defScope s_unreached) := ⟨rfl, rfl, rfl, by decide +kernel, rfl, by decide +kernel, by decide +kernel⟩
theorem ok_unreached (T : Tx K mg) : Ok P w K mg base 3 d_unreached ["states"] spUnreached := by
  obtain ⟨f1, F1, b1, k1⟩ := ok_holds_of (P := P) (w := w) (base := base) T
  obtain ⟨f2, F2, b2, k2⟩ := ok_roots_of (P := P) (w := w) (base := base) T
  obtain ⟨f3, F3, b3, k3⟩ := ok_reached_from (P := P) (w := w) (base := base) T
  refine Ok.mk T 27 rfl ⟨rfl, rfl⟩ scUnreached (fun vs H Q E h => ?_) (fun _ _ _ _ _ _ us hl => match us, hl with | [_], _ => rfl) (fun cdv A outer s H vs Q E hr h => ?_)
  · obtain ⟨p, kvs, st, rfl, _⟩ := h
    rfl
  · obtain ⟨p, kvs, st, rfl, hp, hs, hn, hz, q⟩ := h
    have hu := hu_of hr
    have hr1 := hr.mono (show 1 ≤ 2 by decide)
    refine ⟨_, pss_cons (ps_set (i := 1) scUnreached.nd rfl (.inl rfl) (pe_call F1 hr1 rfl T.g_holds_of k1 b1 .nil passL (pa_cons (pv 0) pa_nil)))
      (pss_cons (ps_set (i := 2) scUnreached.nd rfl (.inr rfl) (pe_call F3 hr1 rfl T.g_reached_from k3 b3 .nil passL (pa_cons (pe_call F2 hr rfl T.g_roots_of k2 b2 .nil passL (pa_cons (pv 0) pa_nil)) (pa_cons (pv 1) pa_nil))))
      (pss_one (ps_ret (pe_tupleOf rfl T.f_tuple (pe_callB call_sortL rfl T.f_sorted PyProof.Rows.boot_sorted (pa_cons
        (pe_lock (pe_lc (own := [("thing", 3)]) (g := gName 3) (tt := tTest (tDNotIn (tVar 3) (tVar 2))) (te := tVar 3) rfl scUnreached.nd (pi_keys (pv 1))
          (blkOk_by (own := [("thing", 3)]) (N := ["states", "held", "reached", "thing"]) (sc := defScope s_unreached) (by decide +kernel))
          (fun _ _ _ _ _ => pg_name (i := 3) scUnreached.nd rfl (.inl rfl)) (fun _ _ _ _ _ => pts_one (pt_cmp (pc_dnotin hu (pv 3) (pv 2)))) (fun _ _ _ _ _ => pv 3))) pa_nil)))))), ?_⟩
    refine ⟨_, rfl, p, kvs, st, rfl, hp, hs, hn, hz, fun H1 ph o sm1 nh e1 r1 => ?_⟩
    obtain ⟨ws, rfl, hws⟩ := r1
    refine ⟨_, rfl, p, kvs, st, rfl, sm1 _ _ hp, hs.mono fun v b g => g.mono (Same.ts sm1), hn, hz, fun H2 pr o sm2 nr e2 r2 => ?_⟩
    cases r2
    have hws2 : hRel H2 ws (Fm.holdsOf st) := hws.mono fun v b g => g.mono (Same.ts sm2)
    have hel : Fm.edges (Fm.holdsOf st) ≤ 10000000 := by
      have h1 := Fm.edges_mem (hd := Fm.holdsOf st) fun e he => by
        obtain ⟨x, hx, ex⟩ := Fm.holdsOf_val he
        rw [ex]
        exact hz.inn x hx
      have h2 := Fm.holdsOf_len hz
      omega
    have hrl : (Fm.rootsOf st).length ≤ 20000 := by
      have h1 := Fm.rootN_len hz (Fm.outsOf st)
      have h2 := Fm.outsOf_len hz
      exact Nat.le_trans (show (Fm.rootsOf st).length ≤ _ from h1) (by omega)
    refine ⟨_, rfl, pr, ph, Fm.rootsOf st, ws, Fm.holdsOf st, rfl, e2, sm2 _ _ e1, hws2, by omega, fun H3 r sm3 nr3 e3 => ?_⟩
    have sm13 := sm1.trans (sm2.trans sm3)
    have hph := sm3 _ _ (sm2 _ _ e1)
    have hws3 : hRel H3 ws (Fm.holdsOf st) := hws2.mono fun v b g => g.mono (Same.ts sm3)
    have nph : ph ≠ r := ne_of_none (sm2 _ _ e1) nr3
    refine ⟨ph, _, hph, True.intro, fun od => ?_⟩
    refine ⟨_, rfl, ph, od, rfl, .inr ⟨_, upd_same, fun D nD => ?_⟩⟩
    have nDp : D ≠ ph := fun z => by rw [z, upd_same] at nD; cases nD
    have nD0 : H3 D = none := by rw [upd_ne nDp] at nD; exact nD
    have nDr : r ≠ D := ne_of_none e3 nD0
    have nrp : r ≠ ph := nph.symm
    refine lc_it (walk_keysT (d := ph) (o := od) (kvs := ws)) (fun j H' => ∃ acc, H' = upd (upd H3 ph (.frz od (.dT ws))) D (.lst acc) ∧ DVs H3 acc ((((Fm.keys (Fm.holdsOf st)).take j).filter fun t => decide (t ∉ Fm.reachedFrom (Fm.rootsOf st) (Fm.holdsOf st))).map dTh)) ⟨[], rfl, .nil⟩
      (fun j H' _ z => by obtain ⟨_, rfl, _⟩ := z; rw [upd_ne nDp.symm]; exact upd_same) ?_ ?_
    · rintro j v H4 H5 hj ⟨acc, rfl, hacc⟩ ⟨rfl, k, v', b, hk, rfl, hb0⟩
      obtain ⟨e, he, hke⟩ := paired_get hws3 hk
      obtain ⟨rfl, _⟩ := hke
      have hkj : (Fm.keys (Fm.holdsOf st))[j]? = some e.1 := by unfold Fm.keys; rw [List.getElem?_map, he]; rfl
      have et := take_succ_at hkj
      have hb' : upd (upd H3 ph (.frz od (.dT ws))) D (.lst acc) b = some (HO.tup [.int e.1.1, .int e.1.2]) := hb0
      have nbD : b ≠ D := fun z => by rw [z, upd_same] at hb'; cases hb'
      have nbp : b ≠ ph := fun z => by rw [z, upd_ne nDp.symm, upd_same] at hb'; cases hb'
      have hb3 : H3 b = some (HO.tup [.int e.1.1, .int e.1.2]) := by
        rw [upd_ne nbD, upd_ne nbp] at hb'
        exact hb'
      refine ⟨rfl, _, rfl, _, rfl, r, _, rfl, DGet.t (k := kP e.1) (by rw [upd_ne nDr, upd_ne nrp]; exact e3) hb', _, rfl, ?_⟩
      rw [hE_get]
      by_cases hm : e.1 ∈ Fm.reachedFrom (Fm.rootsOf st) (Fm.holdsOf st)
      · rw [if_pos hm]
        refine iteF ⟨acc, rfl, ?_⟩
        rw [et, List.filter_append, List.filter_cons, if_neg (by simp [hm])]
        simpa using hacc
      · rw [if_neg hm]
        refine iteT ⟨_, rfl, acc, upd_same, ?_, acc ++ [.ref b], ?_, ?_⟩
        · have h1 : acc.length ≤ 10000 := by
            rw [hacc.length, List.length_map]
            have h1 := List.length_filter_le (fun t => decide (t ∉ Fm.reachedFrom (Fm.rootsOf st) (Fm.holdsOf st))) ((Fm.keys (Fm.holdsOf st)).take j)
            have h2 := List.length_take_le' j (Fm.keys (Fm.holdsOf st))
            have h3 : (Fm.keys (Fm.holdsOf st)).length = (Fm.holdsOf st).length := List.length_map ..
            have h4 := Fm.holdsOf_len hz
            omega
          rw [sizeLine_eq]
          omega
        · rw [upd_upd]
        · rw [et, List.filter_append, List.filter_cons, if_pos (by simp [hm]), List.map_append]
          exact hacc.snoc (.mkTh hb3)
    · rintro H4 ⟨acc, rfl, hacc⟩
      rw [hws3.length, ← List.length_map (f := Prod.fst) (as := Fm.holdsOf st)] at hacc
      have hacc : DVs H3 acc (((Fm.keys (Fm.holdsOf st)).filter fun t => decide (t ∉ Fm.reachedFrom (Fm.rootsOf st) (Fm.holdsOf st))).map dTh) := by
        have e : (Fm.keys (Fm.holdsOf st)).take ((Fm.holdsOf st).map Prod.fst).length = Fm.keys (Fm.holdsOf st) := List.take_length
        rw [e] at hacc
        exact hacc
      refine ⟨by rw [upd_ne nDp.symm]; exact upd_same, ?_⟩
      rw [unlocked hph nDp]
      have sm4 := sm13.trans (same_new (o := .lst acc) nD0)
      have dacc := hacc.mono (Same.ts (same_new (o := .lst acc) nD0))
      have e4 : upd H3 D (.lst acc) D = some (.lst acc) := upd_same
      generalize upd H3 D (.lst acc) = H4 at sm4 dacc e4
      refine ⟨D, acc, _, rfl, e4, dacc, fun us p5 n5 d5 => .inl ⟨p5, us, rfl, SqL.of upd_same, fun p6 n6 => ?_⟩⟩
      have sm6 := (sm4.trans (same_new (o := .lst us) n5)).trans (same_new (o := .tup us) n6)
      refine q _ _ sm6 (.tup upd_same ?_)
      exact (d5.mono (Same.ts (same_new n5))).mono (Same.ts (same_new n6))
end
end Fh

set_option Elab.async false
set_option linter.all false
set_option maxRecDepth 100000
set_option maxHeartbeats 4000000
namespace Fh
open PySem PySem.Spec L2 FhR
open Fm (Th Hs StD Wd Er HG HB HSm Sts SZ Inq)
/-! ### an inquiry's object -/
abbrev qC (K : PySem.W.Frag) : Addr := He.ga K "Inquiry"
def qf (n : Int) (t s g : Addr) : List (Str × V) := [("many", .int n), ("ticks", .ref t), ("states", .ref s), ("again", .ref g)]
section
variable {n : Int} {t s g : Addr}
theorem qf_many : (qf n t s g).lookup ("many" : Str) = some (V.int n) := by kernel_rfl
theorem qf_ticks : (qf n t s g).lookup ("ticks" : Str) = some (V.ref t) := by kernel_rfl
theorem qf_states : (qf n t s g).lookup ("states" : Str) = some (V.ref s) := by kernel_rfl
theorem qf_again : (qf n t s g).lookup ("again" : Str) = some (V.ref g) := by kernel_rfl
theorem qf_first : (qf n t s g).lookup ("first" : Str) = none := by kernel_rfl
theorem qf_second : (qf n t s g).lookup ("second" : Str) = none := by kernel_rfl
theorem qf_still : (qf n t s g).lookup ("still" : Str) = none := by kernel_rfl
theorem qf_result : (qf n t s g).lookup ("result" : Str) = none := by kernel_rfl
theorem qf_init : putF "again" (.ref g) (putF "states" (.ref s) (putF "ticks" (.ref t) (putF "many" (.int n) []))) = qf n t s g := by kernel_rfl
end
structure QIs (C : Addr) (l : Lab) (H : Hp) (ow : Ow) (a : Addr) (n : Nat) (q : Inq) (dx t s g : Addr) (kvs : List (Key × V)) : Prop where
  ob : H a = some (.ins C dx (qf n t s g))
  ht : H t = some (.dK (eI q.ticks))
  hs : H s = some (.dK kvs)
  rs : SRel H kvs q.states
  hg : H g = some (.dK (eI q.again))
  la : ow a = some l
  lt : ow t = some l
  ls : ow s = some l
  lg : ow g = some l
  n1 : t ≠ s
  n2 : t ≠ g
  n3 : s ≠ g
def QAt (C : Addr) (l : Lab) (H : Hp) (ow : Ow) (a : Addr) (n : Nat) (q : Inq) : Prop := ∃ dx t s g kvs, QIs C l H ow a n q dx t s g kvs
section
variable {C a p dx t s g : Addr} {l : Lab} {H H' : Hp} {ow ow' : Ow} {n : Nat} {q : Inq} {kvs : List (Key × V)} {o : HO}
theorem QIs.stay (h : QIs C l H ow a n q dx t s g kvs) (k : ∀ b o, H b = some o → ow b = some l → H' b = some o ∧ ow' b = ow b) (ts : TS H H') : QIs C l H' ow' a n q dx t s g kvs where
  ob := (k _ _ h.ob h.la).1
  ht := (k _ _ h.ht h.lt).1
  hs := (k _ _ h.hs h.ls).1
  rs := h.rs.mono fun _ _ g => g.mono ts
  hg := (k _ _ h.hg h.lg).1
  la := by rw [(k _ _ h.ob h.la).2]; exact h.la
  lt := by rw [(k _ _ h.ht h.lt).2]; exact h.lt
  ls := by rw [(k _ _ h.hs h.ls).2]; exact h.ls
  lg := by rw [(k _ _ h.hg h.lg).2]; exact h.lg
  n1 := h.n1
  n2 := h.n2
  n3 := h.n3
theorem QAt.stay (h : QAt C l H ow a n q) (k : ∀ b o, H b = some o → ow b = some l → H' b = some o ∧ ow' b = ow b) (ts : TS H H') : QAt C l H' ow' a n q := by
  obtain ⟨dx, t, s, g, kvs, h⟩ := h
  exact ⟨dx, t, s, g, kvs, h.stay k ts⟩
theorem HAt.stay {i : Int} {S : Hs} (h : HAt C l H ow a i S) (k : ∀ b o, H b = some o → ow b = some l → H' b = some o ∧ ow' b = ow b) : HAt C l H' ow' a i S := by
  obtain ⟨x, h⟩ := h
  exact ⟨x, h.stay k⟩
end
def AftQ (K : PySem.W.Frag) (l : Lab) (H : Hp) (ow : Ow) (a : Addr) (n : Nat) (q : Inq) (k : Hp → Prop) : Prop :=
  ∀ H' ow', Frm (fun m => m = l) H ow H' ow' → QAt (qC K) l H' ow' a n q → k H'
def spInqInit (K : PySem.W.Frag) : Sp := fun vs H Q _ => ∃ (l : Lab) (ow : Ow) (a dx : Addr) (n : Nat), vs = [.ref a, .int n] ∧ H a = some (.ins (qC K) dx []) ∧ ow a = some l ∧ Clean H ow ∧ AftQ K l H ow a n Inq.new (Q .non)
def spFirst (K : PySem.W.Frag) : Sp := fun vs H Q _ => ∃ (l : Lab) (ow : Ow) (a : Addr) (n : Nat) (q : Inq) (h tk : Int) (v : V) (st : StD), vs = [.ref a, .int h, .int tk, v] ∧ QAt (qC K) l H ow a n q ∧ Clean H ow ∧ DV H v (dSt st) ∧ q.ticks.length ≤ 1000 ∧ q.states.length ≤ 1000 ∧
  AftQ K l H ow a n { q with ticks := Fm.dput q.ticks h tk, states := Fm.dput q.states h st } (Q (.bl (decide ((Fm.dput q.ticks h tk).length = n))))
def spSecond (K : PySem.W.Frag) : Sp := fun vs H Q _ => ∃ (l : Lab) (ow : Ow) (a : Addr) (n : Nat) (q : Inq) (h tk : Int), vs = [.ref a, .int h, .int tk] ∧ QAt (qC K) l H ow a n q ∧ Clean H ow ∧ q.again.length ≤ 1000 ∧
  AftQ K l H ow a n { q with again := Fm.dput q.again h tk } (Q (.bl (decide ((Fm.dput q.again h tk).length = n))))
section
variable {P : Program} {w : World} {K : PySem.W.Frag} {mg : Str → Option Value} {base : Heap}
theorem scInqInit : FnScope ["self", "many"] ["self", "many"] (defScope sQ_init) := ⟨rfl, rfl, rfl, by decide +kernel, rfl, by decide +kernel, by decide +kernel⟩
theorem ok_Inquiry (T : Tx K mg) : Ok P w K mg base 1 dQ_init ["self", "many"] (spInqInit K) := by
  refine Ok.mk T 28 rfl ⟨rfl, rfl⟩ scInqInit (fun vs H Q E h => ?_) (fun _ _ _ _ _ _ us hl => match us, hl with | [_, _], _ => rfl) (fun cdv A outer s H vs Q E hr h => ?_)
  · obtain ⟨l, ow, a, dx, i, rfl, _⟩ := h
    rfl
  · obtain ⟨l, ow, a, dx, n, rfl, hh, hla, hcl, q⟩ := h
    refine ⟨_, pss_cons (ps_fld (pv 0) (pv 1) rfl) (pss_cons (ps_fld (pv 0) pe_dnewK rfl) (pss_cons (ps_fld (pv 0) pe_dnewK rfl) (pss_one (ps_fld (pv 0) pe_dnewK rfl)))), ?_⟩
    refine ⟨_, rfl, _, rfl, _, _, _, _, rfl, hh, T.c_Inquiry, T.n_Inquiry_many, (by show 0 < 1000; decide), ?_⟩
    intro p1 n1
    have na1 : a ≠ p1 := ne_of_none upd_same n1
    refine ⟨_, rfl, _, _, _, _, rfl, by rw [upd_ne na1]; exact upd_same, T.c_Inquiry, T.n_Inquiry_ticks, (by show 1 < 1000; decide), ?_⟩
    intro p2 n2
    have na2 : a ≠ p2 := ne_of_none upd_same n2
    refine ⟨_, rfl, _, _, _, _, rfl, by rw [upd_ne na2]; exact upd_same, T.c_Inquiry, T.n_Inquiry_states, (by show 2 < 1000; decide), ?_⟩
    intro p3 n3
    have na3 : a ≠ p3 := ne_of_none upd_same n3
    refine ⟨_, rfl, _, _, _, _, rfl, by rw [upd_ne na3]; exact upd_same, T.c_Inquiry, T.n_Inquiry_again, (by show 3 < 1000; decide), ?_⟩
    rw [qf_init]
    have n2' := n2
    rw [upd_ne na2.symm] at n2'
    have n12 : p2 ≠ p1 := fun z => by rw [z, upd_same] at n2'; cases n2'
    have n3' := n3
    rw [upd_ne na3.symm] at n3'
    have n23 : p3 ≠ p2 := fun z => by rw [z, upd_same] at n3'; cases n3'
    rw [upd_ne n23, upd_ne na3.symm] at n3'
    have n13 : p3 ≠ p1 := fun z => by rw [z, upd_same] at n3'; cases n3'
    have f0 : Frm (fun m => m = l) H ow H ow := Frm.refl
    have nt : ∀ xs, HO.ins (qC K) dx [] ≠ .tup xs := fun xs z => by cases z
    have f1 := ((f0.lab (o' := .ins (qC K) dx (putF "many" (.int n) [])) hh nt hla rfl).new (o := .dK []) n1).label (l := l) (by rw [upd_ne na1.symm] at n1; exact n1) ⟨_, upd_same⟩
    have f2 := ((f1.lab (o' := .ins (qC K) dx (putF "ticks" (.ref p1) (putF "many" (.int n) []))) hh nt hla rfl).new (o := .dK []) n2).label (l := l) (f0.none_back (by rw [upd_ne na2.symm, upd_ne n12, upd_ne na2.symm] at n2; exact n2)) ⟨_, upd_same⟩
    have f3 := ((f2.lab (o' := .ins (qC K) dx (putF "states" (.ref p2) (putF "ticks" (.ref p1) (putF "many" (.int n) [])))) hh nt hla rfl).new (o := .dK []) n3).label (l := l) (by rw [upd_ne n13, upd_ne na3.symm] at n3'; exact n3') ⟨_, upd_same⟩
    have f5 := f3.lab (o' := .ins (qC K) dx (qf n p1 p2 p3)) hh nt hla rfl
    refine q _ _ f5 ⟨dx, p1, p2, p3, [], ⟨upd_same, ?_, ?_, .nil, ?_, ?_, ?_, ?_, setO_same, n12.symm, n13.symm, n23.symm⟩⟩
    · show upd _ a _ p1 = some (.dK [])
      rw [upd_ne na1.symm, upd_ne n13.symm, upd_ne na1.symm, upd_ne n12.symm, upd_ne na1.symm]
      exact upd_same
    · show upd _ a _ p2 = some (.dK [])
      rw [upd_ne na2.symm, upd_ne n23.symm, upd_ne na2.symm]
      exact upd_same
    · show upd _ a _ p3 = some (.dK [])
      rw [upd_ne na3.symm]
      exact upd_same
    · rw [setO_ne na3, setO_ne na2, setO_ne na1]
      exact hla
    · show setO (setO (setO ow p1 l) p2 l) p3 l p1 = some l
      rw [setO_ne n13.symm, setO_ne n12.symm]
      exact setO_same
    · show setO (setO (setO ow p1 l) p2 l) p3 l p2 = some l
      rw [setO_ne n23.symm]
      exact setO_same
theorem scFirst : FnScope ["self", "h", "tick", "state"] ["self", "h", "tick", "state"] (defScope sQ_first) := ⟨rfl, rfl, rfl, by decide +kernel, rfl, by decide +kernel, by decide +kernel⟩
theorem ok_first (T : Tx K mg) : Ok P w K mg base 1 dQ_first ["self", "h", "tick", "state"] (spFirst K) := by
  refine Ok.mk T 29 rfl ⟨rfl, rfl⟩ scFirst (fun vs H Q E h => ?_) (fun _ _ _ _ _ _ us hl => match us, hl with | [_, _, _, _], _ => rfl) (fun cdv A outer s H vs Q E hr h => ?_)
  · obtain ⟨l, ow, a, n, q, h, tk, v, st, rfl, _⟩ := h
    rfl
  · obtain ⟨l, ow, a, n, q, h, tk, v, st, rfl, ⟨dx, t, s, g, kvs, hh⟩, hcl, hv, hz1, hz2, k⟩ := h
    have hu := hu_of hr
    refine ⟨_, pss_cons (ps_dput hu (pe_fld (pv 0) rfl) (pv 1) (pv 2) rfl) (pss_cons (ps_dput hu (pe_fld (pv 0) rfl) (pv 1) (pv 3) rfl)
      (pss_one (ps_ret (pe_cmpR op_eq (pe_callB call_lenD rfl T.f_len boot_len (pa_cons (pe_fld (pv 0) rfl) pa_nil)) (pe_fld (pv 0) rfl) (nomark _))))), ?_⟩
    refine ⟨_, rfl, _, rfl, _, _, _, _, _, rfl, hh.ob, T.c_Inquiry, T.n_Inquiry_ticks, qf_ticks, _, rfl, _, _, rfl, DPut.k (k := Sum.inl h) hh.ht (by rw [emb_length]; exact line_lt hz1), ?_⟩
    rw [emb_put inli]
    have f1 : Frm (fun m => m = l) H ow _ ow := (Frm.refl).lab (o' := .dK (eI (Fm.dput q.ticks h tk))) hh.ht (by intro xs z; cases z) hh.lt rfl
    have nat : a ≠ t := ne_of hh.ob hh.ht (by intro z; cases z)
    have nas : a ≠ s := ne_of hh.ob hh.hs (by intro z; cases z)
    refine ⟨_, rfl, _, rfl, _, _, _, _, _, rfl, by rw [upd_ne nat]; exact hh.ob, T.c_Inquiry, T.n_Inquiry_states, qf_states, _, rfl, s, _, rfl, DPut.k (k := Sum.inl h) (by rw [upd_ne hh.n1.symm]; exact hh.hs) (by rw [hh.rs.length]; exact line_lt hz2), ?_⟩
    have f2 := f1.lab (o' := .dK (putK kvs (Sum.inl h) v)) hh.hs (by intro xs z; cases z) hh.ls rfl
    have g2 : QIs (qC K) l (upd (upd H t (.dK (eI (Fm.dput q.ticks h tk)))) s (.dK (putK kvs (Sum.inl h) v))) ow a n { q with ticks := Fm.dput q.ticks h tk, states := Fm.dput q.states h st } dx t s g (putK kvs (Sum.inl h) v) := by
      refine ⟨?_, ?_, upd_same, (hh.rs.mono fun _ _ g => g.mono f2.tup).put inli h (hv.mono f2.tup), ?_, hh.la, hh.lt, hh.ls, hh.lg, hh.n1, hh.n2, hh.n3⟩
      · rw [upd_ne nas, upd_ne nat]; exact hh.ob
      · rw [upd_ne hh.n1]; exact upd_same
      · rw [upd_ne hh.n3.symm, upd_ne hh.n2.symm]; exact hh.hg
    refine ⟨_, rfl, _, _, _, _, _, rfl, g2.ob, T.c_Inquiry, T.n_Inquiry_ticks, qf_ticks, t, _, rfl, g2.ht, _, rfl, _, _, _, _, _, rfl, g2.ob, T.c_Inquiry, T.n_Inquiry_many, qf_many, rfl, ?_⟩
    rw [decV, emb_length, decide_eq_decide.mpr Int.ofNat_inj]
    exact k _ _ f2 ⟨_, _, _, _, _, g2⟩
theorem scSecond : FnScope ["self", "h", "tick"] ["self", "h", "tick"] (defScope sQ_second) := ⟨rfl, rfl, rfl, by decide +kernel, rfl, by decide +kernel, by decide +kernel⟩
theorem ok_second (T : Tx K mg) : Ok P w K mg base 1 dQ_second ["self", "h", "tick"] (spSecond K) := by
  refine Ok.mk T 30 rfl ⟨rfl, rfl⟩ scSecond (fun vs H Q E h => ?_) (fun _ _ _ _ _ _ us hl => match us, hl with | [_, _, _], _ => rfl) (fun cdv A outer s H vs Q E hr h => ?_)
  · obtain ⟨l, ow, a, n, q, h, tk, rfl, _⟩ := h
    rfl
  · obtain ⟨l, ow, a, n, q, h, tk, rfl, ⟨dx, t, s, g, kvs, hh⟩, hcl, hz, k⟩ := h
    have hu := hu_of hr
    refine ⟨_, pss_cons (ps_dput hu (pe_fld (pv 0) rfl) (pv 1) (pv 2) rfl)
      (pss_one (ps_ret (pe_cmpR op_eq (pe_callB call_lenD rfl T.f_len boot_len (pa_cons (pe_fld (pv 0) rfl) pa_nil)) (pe_fld (pv 0) rfl) (nomark _)))), ?_⟩
    refine ⟨_, rfl, _, rfl, _, _, _, _, _, rfl, hh.ob, T.c_Inquiry, T.n_Inquiry_again, qf_again, _, rfl, _, _, rfl, DPut.k (k := Sum.inl h) hh.hg (by rw [emb_length]; exact line_lt hz), ?_⟩
    rw [emb_put inli]
    have f1 : Frm (fun m => m = l) H ow _ ow := (Frm.refl).lab (o' := .dK (eI (Fm.dput q.again h tk))) hh.hg (by intro xs z; cases z) hh.lg rfl
    have nag : a ≠ g := ne_of hh.ob hh.hg (by intro z; cases z)
    have g2 : QIs (qC K) l (upd H g (.dK (eI (Fm.dput q.again h tk)))) ow a n { q with again := Fm.dput q.again h tk } dx t s g kvs := by
      refine ⟨?_, ?_, ?_, hh.rs.mono fun _ _ g => g.mono f1.tup, upd_same, hh.la, hh.lt, hh.ls, hh.lg, hh.n1, hh.n2, hh.n3⟩
      · rw [upd_ne nag]; exact hh.ob
      · rw [upd_ne hh.n2]; exact hh.ht
      · rw [upd_ne hh.n3]; exact hh.hs
    refine ⟨_, rfl, _, _, _, _, _, rfl, g2.ob, T.c_Inquiry, T.n_Inquiry_again, qf_again, g, _, rfl, g2.hg, _, rfl, _, _, _, _, _, rfl, g2.ob, T.c_Inquiry, T.n_Inquiry_many, qf_many, rfl, ?_⟩
    rw [decV, emb_length, decide_eq_decide.mpr Int.ofNat_inj]
    exact k _ _ f1 ⟨_, _, _, _, _, g2⟩
end
end Fh

set_option Elab.async false
set_option linter.all false
set_option maxRecDepth 100000
set_option maxHeartbeats 4000000
namespace Fm
theorem houses_at {n j : Nat} (h : j < n) : (houses n)[j]? = some (j : Int) := by
  unfold houses
  rw [List.getElem?_map, List.getElem?_range h]
  rfl
theorem houses_len (n : Nat) : (houses n).length = n := by unfold houses; rw [List.length_map, List.length_range]
theorem mem_houses {n : Nat} {h : Int} : h ∈ houses n ↔ 0 ≤ h ∧ h < (n : Int) := by
  unfold houses
  rw [List.mem_map]
  constructor
  · rintro ⟨k, hk, rfl⟩
    have := List.mem_range.mp hk
    omega
  · rintro ⟨h1, h2⟩
    exact ⟨h.toNat, List.mem_range.mpr (by omega), by omega⟩
theorem nodup_houses (n : Nat) : (houses n).Nodup := by
  unfold houses
  exact List.pairwise_map.mpr (List.nodup_range.imp fun h z => h (by omega))
theorem keys_filterMap {β γ : Type} {l : List Int} {f : Int → Option β} : keys (l.filterMap fun h => (f h).map fun s => (h, s)) = l.filter fun h => (f h).isSome := by
  induction l with
  | nil => rfl
  | cons h r ih =>
    rw [List.filterMap_cons, List.filter_cons]
    cases e : f h with
    | none => simpa using ih
    | some s =>
      show keys ((h, s) :: _) = _
      simp only [Option.isSome_some, if_true]
      unfold keys at ih ⊢
      rw [List.map_cons, ih]
theorem still_nodup (n : Nat) (q : Inq) : (q.still n).Nodup := (nodup_houses n).filter _
theorem told_nodup (n : Nat) (q : Inq) : (keys (q.told n)).Nodup := by
  unfold Inq.told
  rw [keys_filterMap (γ := Unit)]
  exact (still_nodup n q).filter _
end Fm
namespace Fh
open PySem PySem.Spec L2 FhR
open Fm (Th Hs StD Wd Er HG HB HSm Sts SZ Inq)
def spStill (K : PySem.W.Frag) : Sp := fun vs H Q _ => ∃ (l : Lab) (ow : Ow) (a : Addr) (n : Nat) (q : Inq), vs = [.ref a] ∧ QAt (qC K) l H ow a n q ∧ n ≤ 1000 ∧ (∀ h ∈ Fm.houses n, h ∈ Fm.keys q.ticks ∧ h ∈ Fm.keys q.again) ∧
  ∀ H' r, Same H H' → H r = none → H' r = some (.lst ((q.still n).map V.int)) → Q (.ref r) H'
def spResult (K : PySem.W.Frag) : Sp := fun vs H Q _ => ∃ (l : Lab) (ow : Ow) (a : Addr) (n : Nat) (q : Inq), vs = [.ref a] ∧ QAt (qC K) l H ow a n q ∧ n ≤ 1000 ∧ (∀ h ∈ Fm.houses n, h ∈ Fm.keys q.ticks ∧ h ∈ Fm.keys q.again ∧ h ∈ Fm.keys q.states) ∧ SZ (q.told n) ∧
  ∀ H' v, Same H H' → DV H' v (dThs (q.result n)) → Q v H'
section
variable {P : Program} {w : World} {K : PySem.W.Frag} {mg : Str → Option Value} {base : Heap}
theorem scStill : FnScope ["self", "h"] ["self"] (defScope sQ_still) := ⟨rfl, rfl, rfl, by decide +kernel, rfl, by decide +kernel, by decide +kernel⟩
theorem ok_still (T : Tx K mg) : Ok P w K mg base 1 dQ_still ["self"] (spStill K) := by
  refine Ok.mk T 31 rfl ⟨rfl, rfl⟩ scStill (fun vs H Q E h => ?_) (fun _ _ _ _ _ _ us hl => match us, hl with | [_], _ => rfl) (fun cdv A outer s H vs Q E hr h => ?_)
  · obtain ⟨l, ow, a, n, q, rfl, _⟩ := h
    rfl
  · obtain ⟨l, ow, a, n, q, rfl, ⟨dx, t, s, g, kvs, hh⟩, hn, hk, k⟩ := h
    have hu := hu_of hr
    refine ⟨_, pss_one (ps_ret (pe_lc (own := [("h", 1)]) (g := gName 1) (tt := tTest (tOp rEq (tDGet (tFld K (tVar 0) "ticks") (tVar 1)) (tDGet (tFld K (tVar 0) "again") (tVar 1)))) (te := tVar 1) rfl scStill.nd (pi_range1 rfl T.f_range (pa_cons (pe_fld (pv 0) rfl) pa_nil))
          (blkOk_by (own := [("h", 1)]) (N := ["self", "h"]) (sc := defScope sQ_still) (by decide +kernel))
          (fun _ _ _ _ _ => pg_name (i := 1) scStill.nd rfl (.inl rfl)) (fun _ _ _ _ _ => pts_one (pt_cmpR op_eq (pe_dget hu (pe_fld (pv 0) rfl) (pv 1) (fun _ _ => rfl)) (pe_dget hu (pe_fld (pv 0) rfl) (pv 1) (fun _ _ => rfl)) (nomark _))) (fun _ _ _ _ _ => pv 1))), ?_⟩
    refine ⟨_, rfl, _, _, _, _, _, rfl, hh.ob, T.c_Inquiry, T.n_Inquiry_many, qf_many, n, rfl, by omega, by omega, fun D nD => ?_⟩
    refine lc_it walk_range (fun j H' => H' = upd H D (.lst ((((Fm.houses n).take j).filter fun h => decide (Fm.dget q.ticks h = Fm.dget q.again h)).map V.int))) rfl (fun _ _ _ _ => True.intro) ?_ ?_
    · rintro j v H4 H5 hj rfl ⟨rfl, ev⟩
      have hj' : j < n := by omega
      obtain rfl : v = .int (j : Int) := ev.trans (congrArg V.int (Int.zero_add _))
      have hjh : (j : Int) ∈ Fm.houses n := Fm.mem_houses.mpr (by omega)
      obtain ⟨x, ex⟩ := Fm.dget_some (hk _ hjh).1
      obtain ⟨y, ey⟩ := Fm.dget_some (hk _ hjh).2
      have naD := ne_of_none hh.ob nD
      have gt := DGet.k (k := Sum.inl (j : Int)) (keepL hh.ht nD (o := .lst ((((Fm.houses n).take j).filter fun h => decide (Fm.dget q.ticks h = Fm.dget q.again h)).map V.int)))
      rw [emb_get inli, ex] at gt
      have gg := DGet.k (k := Sum.inl (j : Int)) (keepL hh.hg nD (o := .lst ((((Fm.houses n).take j).filter fun h => decide (Fm.dget q.ticks h = Fm.dget q.again h)).map V.int)))
      rw [emb_get inli, ey] at gg
      have et := take_succ_at (Fm.houses_at hj')
      refine ⟨rfl, _, rfl, _, _, _, _, _, rfl, by rw [upd_ne naD]; exact hh.ob, T.c_Inquiry, T.n_Inquiry_ticks, qf_ticks, _, rfl, t, .int x, rfl, gt, _, rfl, _, _, _, _, _, rfl, by rw [upd_ne naD]; exact hh.ob, T.c_Inquiry, T.n_Inquiry_again, qf_again, _, rfl, g, .int y, rfl, gg, rfl, _, rfl, ?_⟩
      rw [decV]
      by_cases c : x = y
      · rw [decide_eq_true c]
        refine iteT ⟨_, rfl, _, upd_same, ?_, ?_⟩
        · rw [List.length_map]
          have h1 := List.length_filter_le (fun h => decide (Fm.dget q.ticks h = Fm.dget q.again h)) ((Fm.houses n).take j)
          have h2 := List.length_take_le' j (Fm.houses n)
          have h3 := Fm.houses_len n
          exact line_lt (by omega)
        · rw [upd_upd, et, List.filter_append, List.filter_cons, if_pos (by rw [ex, ey, c]; exact decide_eq_true rfl), List.map_append]
          rfl
      · rw [decide_eq_false c]
        refine iteF ?_
        rw [et, List.filter_append, List.filter_cons, if_neg (by rw [ex, ey]; simp [c])]
        simp
    · rintro H4 rfl
      have e : (Fm.houses n).take (n : Int).toNat = Fm.houses n := by
        rw [List.take_of_length_le]
        rw [Fm.houses_len]
        omega
      refine k _ D (same_new nD) nD ?_
      rw [e]
      exact upd_same
theorem scResult : FnScope ["self", "states", "h"] ["self"] (defScope sQ_result) := ⟨rfl, rfl, rfl, by decide +kernel, rfl, by decide +kernel, by decide +kernel⟩
theorem ok_result (T : Tx K mg) : Ok P w K mg base 4 dQ_result ["self"] (spResult K) := by
  obtain ⟨f1, F1, b1, k1⟩ := ok_still (P := P) (w := w) (base := base) T
  obtain ⟨f2, F2, b2, k2⟩ := ok_unreached (P := P) (w := w) (base := base) T
  refine Ok.mk T 32 rfl ⟨rfl, rfl⟩ scResult (fun vs H Q E h => ?_) (fun _ _ _ _ _ _ us hl => match us, hl with | [_], _ => rfl) (fun cdv A outer s H vs Q E hr h => ?_)
  · obtain ⟨l, ow, a, n, q, rfl, _⟩ := h
    rfl
  · obtain ⟨l, ow, a, n, q, rfl, ⟨dx, t, s, g, kvs, hh⟩, hn, hk, hz, k⟩ := h
    have hu := hu_of hr
    have hr1 := hr.mono (show 1 ≤ 3 by decide)
    refine ⟨_, pss_cons (ps_set (i := 1) scResult.nd rfl (.inl rfl) pe_dnewK)
      (pss_cons (ps_for (passes_of rfl) rfl (pi_list (pe_meth0 (pv 0) T.c_Inquiry T.m_Inquiry_still F1 hr1 b1 .nil passL)) (pg_name (i := 2) scResult.nd rfl (.inl rfl))
        (pss_one (ps_dput hu (pv 1) (pv 2) (pe_dget hu (pe_fld (pv 0) rfl) (pv 2) (fun _ _ => rfl)) rfl)))
      (pss_one (ps_ret (pe_call F2 hr rfl T.g_unreached k2 b2 .nil passL (pa_cons (pv 1) pa_nil))))), ?_⟩
    intro ps np
    have s1 := same_new (o := .dK []) np
    have hh1 : QIs (qC K) l (upd H ps (.dK [])) ow a n q dx t s g kvs := hh.stay (fun b o e _ => ⟨s1 b o e, rfl⟩) (Same.ts s1)
    refine ⟨_, rfl, _, _, _, rfl, hh1.ob, qf_still, l, ow, a, n, q, rfl, ⟨_, _, _, _, _, hh1⟩, hn, fun h hm => ⟨(hk h hm).1, (hk h hm).2.1⟩, fun H1 r sm nr er => ?_⟩
    have s2 := s1.trans sm
    have nr0 : H r = none := s1.free nr
    have epr : H1 ps = some (.dK []) := sm _ _ upd_same
    refine ⟨r, rfl, ⟨_, SqL.of er⟩, ?_⟩
    refine for_it (walk_list (a := r) (xs := (q.still n).map V.int)) (fun j σ H' => ∃ (v2 : Option V) (ws : List (Key × V)), σ = [some (.ref a), some (.ref ps), v2] ∧ Same H H' ∧ H' r = some (.lst ((q.still n).map V.int)) ∧ H' ps = some (.dK ws) ∧ SRel H' ws (((q.still n).take j).filterMap fun h => (Fm.dget q.states h).map fun s => (h, s)))
      ⟨_, [], rfl, s2, er, epr, .nil⟩ (fun j σ H' _ z => by obtain ⟨_, _, _, _, z, _⟩ := z; exact SqL.of z) ?_ ?_
    · rintro j v σ H5 H4 hj ⟨v2, ws, rfl, sm4, e4, p4, w4⟩ ⟨rfl, hv⟩
      obtain ⟨h, hh4, rfl⟩ := map_at hv
      have hmh : h ∈ Fm.houses n := (List.mem_filter.mp (List.mem_of_getElem? hh4)).1
      obtain ⟨st, est⟩ := Fm.dget_some (hk h hmh).2.2
      obtain ⟨vst, evst, dvst⟩ := hh.rs.at_ inli est
      have gd := DGet.k (k := Sum.inl h) (sm4 _ _ hh.hs)
      rw [evst] at gd
      have et := take_succ_at hh4
      have nrp : r ≠ ps := fun z => by rw [z] at e4; rw [p4] at e4; cases e4
      have hnk : (Fm.keys (((q.still n).take j).filterMap fun h => (Fm.dget q.states h).map fun s => (h, s))).length ≤ n := by
        rw [Fm.keys_filterMap (γ := Unit)]
        have h1 := List.length_filter_le (fun h => (Fm.dget q.states h).isSome) ((q.still n).take j)
        have h2 := List.length_take_le' j (q.still n)
        have h3 : (q.still n).length ≤ (Fm.houses n).length := List.length_filter_le ..
        have h4 := Fm.houses_len n
        omega
      have hwl : ws.length ≤ 1000 := by
        rw [w4.length]
        have : (Fm.keys (((q.still n).take j).filterMap fun h => (Fm.dget q.states h).map fun s => (h, s))).length = (((q.still n).take j).filterMap fun h => (Fm.dget q.states h).map fun s => (h, s)).length := List.length_map ..
        omega
      refine ⟨_, rfl, _, _, _, _, _, rfl, sm4 _ _ hh.ob, T.c_Inquiry, T.n_Inquiry_states, qf_states, _, rfl, s, vst, rfl, gd, _, rfl, _, rfl, ps, _, rfl, DPut.k (k := Sum.inl h) p4 (line_lt hwl), ?_⟩
      have ts := ts_put (o' := .dK (putK ws (Sum.inl h) vst)) p4 (by intro xs z; cases z)
      refine ⟨_, _, rfl, same_put sm4 np, by rw [upd_ne nrp]; exact e4, upd_same, ?_⟩
      rw [et, List.filterMap_append]
      have hfm : [h].filterMap (fun h => (Fm.dget q.states h).map fun s => (h, s)) = [(h, st)] := by simp [est]
      rw [hfm]
      have hnot : h ∉ Fm.keys (((q.still n).take j).filterMap fun h => (Fm.dget q.states h).map fun s => (h, s)) := by
        rw [Fm.keys_filterMap (γ := Unit)]
        intro z
        exact nodup_take (Fm.still_nodup n q) hh4 (List.mem_filter.mp z).1
      have := (w4.mono fun _ _ g => g.mono ts).put inli h (v := vst) (b := st) ((dvst.mono (Same.ts sm4)).mono ts)
      rw [Fm.dput_out hnot] at this
      exact this
    · rintro σ H4 ⟨v2, ws, rfl, sm4, e4, p4, w4⟩
      rw [List.length_map, List.take_length] at w4
      refine ⟨_, rfl, ps, ws, q.told n, rfl, p4, w4, Fm.told_nodup n q, hz, fun H' v sm5 dv => k H' v (sm4.trans sm5) dv⟩
end
end Fh

set_option Elab.async false
set_option linter.all false
set_option maxRecDepth 100000
set_option maxHeartbeats 4000000
namespace Fm
/-- a dict's values with their keys -/
def kd {β : Type} (d : List (Int × β)) : List (Int × (Int × β)) := d.map fun e => (e.1, (e.1, e.2))
theorem keys_kd {β : Type} (d : List (Int × β)) : keys (kd d) = keys d := by
  unfold keys kd
  rw [List.map_map]
  rfl
theorem dget_kd {β : Type} (d : List (Int × β)) (k : Int) : dget (kd d) k = (dget d k).map fun b => (k, b) := by
  induction d with
  | nil => rfl
  | cons e r ih =>
    show dget ((e.1, (e.1, e.2)) :: kd r) k = _
    rw [dget_cons, dget_cons, ih]
    by_cases c : e.1 = k
    · rw [if_pos c, if_pos c, c]
      rfl
    · rw [if_neg c, if_neg c]
theorem dput_kd {β : Type} (d : List (Int × β)) (k : Int) (b : β) : dput (kd d) k (k, b) = kd (dput d k b) := by
  by_cases h : k ∈ keys d
  · rw [dput_in h, dput_in (by rw [keys_kd]; exact h)]
    unfold kd
    rw [List.map_map, List.map_map]
    apply List.map_congr_left
    intro e _
    show (if e.1 = k then (e.1, (k, b)) else (e.1, (e.1, e.2))) = ((if e.1 = k then (e.1, b) else e).1, ((if e.1 = k then (e.1, b) else e).1, (if e.1 = k then (e.1, b) else e).2))
    by_cases c : e.1 = k
    · rw [if_pos c, if_pos c]
      simp [c]
    · rw [if_neg c, if_neg c]
  · rw [dput_out h, dput_out (by rw [keys_kd]; exact h)]
    unfold kd
    rw [List.map_append]
    rfl
theorem ddrop_kd {β : Type} (d : List (Int × β)) (k : Int) : ddrop (kd d) k = kd (ddrop d k) := by
  unfold ddrop kd
  rw [List.filter_map]
  rfl
end Fm
namespace Fh
open PySem PySem.Spec L2 FhR
open Fm (Th Hs StD Wd Er HG HB HSm Sts SZ Inq Lt Ab)
/-! ### letters as data -/
def kindS : Ab → Str
  | .ask _ _ => "ask" | .ans _ _ => "answer" | .hold _ _ => "hold" | .pass _ _ => "pass" | .more _ _ => "more" | .back _ _ => "back" | .lets _ => "let"
def dAb : Ab → PyData
  | .ask q t => .tuple [.int q, .int t]
  | .ans q t => .tuple [.int q, .int t]
  | .hold b w => .tuple [dTh b, .int w]
  | .pass b g => .tuple [dTh b, .int g]
  | .more b w => .tuple [dTh b, .int w]
  | .back b w => .tuple [dTh b, .int w]
  | .lets ts => dThs ts
def dLt (e : Int × Lt) : PyData := .tuple [.int e.1, .str (kindS e.2.ab), .int e.2.sender, .int e.2.goal, dAb e.2.ab]
theorem dLtE {H : Hp} {v : V} {e : Int × Lt} (h : DV H v (dLt e)) : ∃ b va, v = .ref b ∧ H b = some (.tup [.int e.1, .str (kindS e.2.ab), .int e.2.sender, .int e.2.goal, va]) ∧ DV H va (dAb e.2.ab) := by
  obtain ⟨b, ws, rfl, hb, h⟩ := DV.tupE h
  obtain ⟨v0, ws, rfl, h0, h⟩ := h.consE
  obtain ⟨v1, ws, rfl, h1, h⟩ := h.consE
  obtain ⟨v2, ws, rfl, h2, h⟩ := h.consE
  obtain ⟨v3, ws, rfl, h3, h⟩ := h.consE
  obtain ⟨v4, ws, rfl, h4, h⟩ := h.consE
  cases h.nilE
  cases h0.intE
  cases h1.strE
  cases h2.intE
  cases h3.intE
  exact ⟨b, v4, rfl, hb, h4⟩
abbrev pC (K : PySem.W.Frag) : Addr := He.ga K "Post"
def pf (n : Int) (y : Addr) : List (Str × V) := [("last", .int n), ("lying", .ref y)]
section
variable {n m : Int} {y : Addr}
theorem pf_last : (pf n y).lookup ("last" : Str) = some (V.int n) := by kernel_rfl
theorem pf_lying : (pf n y).lookup ("lying" : Str) = some (V.ref y) := by kernel_rfl
theorem pf_put : (pf n y).lookup ("put" : Str) = none := by kernel_rfl
theorem pf_letters : (pf n y).lookup ("letters" : Str) = none := by kernel_rfl
theorem pf_taken : (pf n y).lookup ("taken" : Str) = none := by kernel_rfl
theorem pf_set_last : putF "last" (.int m) (pf n y) = pf m y := by kernel_rfl
theorem pf_init : putF "lying" (.ref y) (putF "last" (.int n) []) = pf n y := by kernel_rfl
theorem pf_len : (pf n y).length < 1000 := by show 2 < 1000; decide
end
abbrev LRel (H : Hp) (kvs : List (Key × V)) (d : List (Int × Lt)) : Prop := ERel Sum.inl (fun v (e : Int × Lt) => DV H v (dLt e)) kvs (Fm.kd d)
structure PIs (C : Addr) (l : Lab) (H : Hp) (ow : Ow) (a : Addr) (n : Int) (d : List (Int × Lt)) (dx y : Addr) (kvs : List (Key × V)) : Prop where
  ob : H a = some (.ins C dx (pf n y))
  hy : H y = some (.dK kvs)
  ry : LRel H kvs d
  la : ow a = some l
  ly : ow y = some l
def PAt (C : Addr) (l : Lab) (H : Hp) (ow : Ow) (a : Addr) (n : Int) (d : List (Int × Lt)) : Prop := ∃ dx y kvs, PIs C l H ow a n d dx y kvs
theorem LRel.len {H : Hp} {kvs : List (Key × V)} {d : List (Int × Lt)} (h : LRel H kvs d) : kvs.length = d.length := (ERel.length h).trans (List.length_map ..)
section
variable {C a dx y : Addr} {l : Lab} {H H' : Hp} {ow ow' : Ow} {n : Int} {d : List (Int × Lt)} {kvs : List (Key × V)}
theorem PIs.stay (h : PIs C l H ow a n d dx y kvs) (k : ∀ b o, H b = some o → ow b = some l → H' b = some o ∧ ow' b = ow b) (ts : TS H H') : PIs C l H' ow' a n d dx y kvs where
  ob := (k _ _ h.ob h.la).1
  hy := (k _ _ h.hy h.ly).1
  ry := h.ry.mono fun _ _ g => g.mono ts
  la := by rw [(k _ _ h.ob h.la).2]; exact h.la
  ly := by rw [(k _ _ h.hy h.ly).2]; exact h.ly
theorem PAt.stay (h : PAt C l H ow a n d) (k : ∀ b o, H b = some o → ow b = some l → H' b = some o ∧ ow' b = ow b) (ts : TS H H') : PAt C l H' ow' a n d := by
  obtain ⟨dx, y, kvs, h⟩ := h
  exact ⟨dx, y, kvs, h.stay k ts⟩
end
def spPostInit (K : PySem.W.Frag) : Sp := fun vs H Q _ => ∃ (l : Lab) (ow : Ow) (a dx : Addr), vs = [.ref a] ∧ H a = some (.ins (pC K) dx []) ∧ ow a = some l ∧ Clean H ow ∧
  ∀ H' ow', Frm (fun m => m = l) H ow H' ow' → PAt (pC K) l H' ow' a 0 [] → Q .non H'
def spPut (K : PySem.W.Frag) : Sp := fun vs H Q _ => ∃ (l : Lab) (ow : Ow) (a : Addr) (n : Int) (d : List (Int × Lt)) (x : Lt) (v : V), vs = [.ref a, .str (kindS x.ab), .int x.sender, .int x.goal, v] ∧ PAt (pC K) l H ow a n d ∧ Clean H ow ∧ DV H v (dAb x.ab) ∧ d.length ≤ 100000 ∧
  ∀ H' ow', Frm (fun m => m = l) H ow H' ow' → PAt (pC K) l H' ow' a (n + 1) (Fm.dput d (n + 1) x) → Q (.int (n + 1)) H'
def spLetters (K : PySem.W.Frag) : Sp := fun vs H Q _ => ∃ (l : Lab) (ow : Ow) (a : Addr) (n : Int) (d : List (Int × Lt)), vs = [.ref a] ∧ PAt (pC K) l H ow a n d ∧ d.length ≤ 100000 ∧
  ∀ H' r ws, Same H H' → H r = none → H' r = some (.lst ws) → DVs H' ws (((Fm.sortI (Fm.keys d)).filterMap fun n => (Fm.dget d n).map fun l => (n, l)).map dLt) → Q (.ref r) H'
def spTaken (K : PySem.W.Frag) : Sp := fun vs H Q E => ∃ (l : Lab) (ow : Ow) (a : Addr) (n : Int) (d : List (Int × Lt)) (m : Int), vs = [.ref a, .int m] ∧ PAt (pC K) l H ow a n d ∧ Clean H ow ∧
  match Fm.dget d m with
  | none => E (exn K .noLetter) none H
  | some x => ∀ H' ow' v, Frm (fun m => m = l) H ow H' ow' → PAt (pC K) l H' ow' a n (Fm.ddrop d m) → DV H' v (dLt (m, x)) → Q v H'
section
variable {P : Program} {w : World} {K : PySem.W.Frag} {mg : Str → Option Value} {base : Heap}
theorem scPostInit : FnScope ["self"] ["self"] (defScope sP_init) := ⟨rfl, rfl, rfl, by decide +kernel, rfl, by decide +kernel, by decide +kernel⟩
theorem ok_Post (T : Tx K mg) : Ok P w K mg base 1 dP_init ["self"] (spPostInit K) := by
  refine Ok.mk T 33 rfl ⟨rfl, rfl⟩ scPostInit (fun vs H Q E h => ?_) (fun _ _ _ _ _ _ us hl => match us, hl with | [_], _ => rfl) (fun cdv A outer s H vs Q E hr h => ?_)
  · obtain ⟨l, ow, a, dx, rfl, _⟩ := h
    rfl
  · obtain ⟨l, ow, a, dx, rfl, hh, hla, hcl, q⟩ := h
    refine ⟨_, pss_cons (ps_fld (pv 0) pe_int rfl) (pss_one (ps_fld (pv 0) pe_dnewK rfl)), ?_⟩
    refine ⟨_, rfl, _, _, _, _, rfl, hh, T.c_Post, T.n_Post_last, (by show 0 < 1000; decide), ?_⟩
    intro p1 n1
    have na1 : a ≠ p1 := ne_of_none upd_same n1
    refine ⟨_, rfl, _, _, _, _, rfl, by rw [upd_ne na1]; exact upd_same, T.c_Post, T.n_Post_lying, (by show 1 < 1000; decide), ?_⟩
    rw [pf_init]
    have f0 : Frm (fun m => m = l) H ow H ow := Frm.refl
    have nt : ∀ xs, HO.ins (pC K) dx [] ≠ .tup xs := fun xs z => by cases z
    have f1 := ((f0.lab (o' := .ins (pC K) dx (putF "last" (.int 0) [])) hh nt hla rfl).new (o := .dK []) n1).label (l := l) (by rw [upd_ne na1.symm] at n1; exact n1) ⟨_, upd_same⟩
    have f5 := f1.lab (o' := .ins (pC K) dx (pf 0 p1)) hh nt hla rfl
    refine q _ _ f5 ⟨dx, p1, [], ⟨upd_same, ?_, .nil, ?_, setO_same⟩⟩
    · rw [upd_ne na1.symm]
      exact upd_same
    · rw [setO_ne na1]
      exact hla
theorem scPut : FnScope ["self", "kind", "sender", "goal", "about"] ["self", "kind", "sender", "goal", "about"] (defScope sP_put) := ⟨rfl, rfl, rfl, by decide +kernel, rfl, by decide +kernel, by decide +kernel⟩
theorem ok_put (T : Tx K mg) : Ok P w K mg base 1 dP_put ["self", "kind", "sender", "goal", "about"] (spPut K) := by
  refine Ok.mk T 34 rfl ⟨rfl, rfl⟩ scPut (fun vs H Q E h => ?_) (fun _ _ _ _ _ _ us hl => match us, hl with | [_, _, _, _, _], _ => rfl) (fun cdv A outer s H vs Q E hr h => ?_)
  · obtain ⟨l, ow, a, n, d, x, v, rfl, _⟩ := h
    rfl
  · obtain ⟨l, ow, a, n, d, x, v, rfl, ⟨dx, y, kvs, hh⟩, hcl, hv, hz, q⟩ := h
    have hu := hu_of hr
    refine ⟨_, pss_cons (ps_fld (pv 0) (pe_op op_add (pe_fld (pv 0) rfl) pe_int) rfl)
      (pss_cons (ps_dput hu (pe_fld (pv 0) rfl) (pe_fld (pv 0) rfl) (pe_tup (pa_cons (pe_fld (pv 0) rfl) (pa_cons (pv 1) (pa_cons (pv 2) (pa_cons (pv 3) (pa_cons (pv 4) pa_nil)))))) rfl)
      (pss_one (ps_ret (pe_fld (pv 0) rfl)))), ?_⟩
    refine ⟨_, rfl, _, _, _, _, _, rfl, hh.ob, T.c_Post, T.n_Post_last, pf_last, _, _, rfl, rfl, _, rfl, _, _, _, _, rfl, hh.ob, T.c_Post, T.n_Post_last, pf_len, ?_⟩
    rw [pf_set_last]
    have nay : a ≠ y := ne_of hh.ob hh.hy (by intro z; cases z)
    have f1 : Frm (fun m => m = l) H ow _ ow := (Frm.refl).lab (o' := .ins (pC K) dx (pf (n + 1) y)) hh.ob (by intro xs z; cases z) hh.la rfl
    have e1 : upd H a (.ins (pC K) dx (pf (n + 1) y)) a = some (.ins (pC K) dx (pf (n + 1) y)) := upd_same
    have y1 : upd H a (.ins (pC K) dx (pf (n + 1) y)) y = some (.dK kvs) := by rw [upd_ne nay.symm]; exact hh.hy
    generalize upd H a (.ins (pC K) dx (pf (n + 1) y)) = H1 at f1 e1 y1
    refine ⟨_, rfl, _, _, _, _, _, rfl, e1, T.c_Post, T.n_Post_last, pf_last, _, rfl, _, rfl, _, rfl, _, rfl, (by show 5 ≤ sizeLine; decide), fun p np => ?_⟩
    have f2 := f1.new (o := .tup [.int (n + 1), .str (kindS x.ab), .int x.sender, .int x.goal, v]) np
    have e2 := keepL e1 np (o := .tup [.int (n + 1), .str (kindS x.ab), .int x.sender, .int x.goal, v])
    have y2 := keepL y1 np (o := .tup [.int (n + 1), .str (kindS x.ab), .int x.sender, .int x.goal, v])
    have t2 : upd H1 p (.tup [.int (n + 1), .str (kindS x.ab), .int x.sender, .int x.goal, v]) p = some (.tup [.int (n + 1), .str (kindS x.ab), .int x.sender, .int x.goal, v]) := upd_same
    generalize upd H1 p (.tup [.int (n + 1), .str (kindS x.ab), .int x.sender, .int x.goal, v]) = H2 at f2 e2 y2 t2
    refine ⟨_, rfl, _, _, _, _, _, rfl, e2, T.c_Post, T.n_Post_lying, pf_lying, _, rfl, _, _, _, _, _, rfl, e2, T.c_Post, T.n_Post_last, pf_last, y, _, rfl, DPut.k (k := Sum.inl (n + 1)) y2 (by rw [hh.ry.len, sizeLine_eq]; omega), ?_⟩
    have f3 := f2.lab (o' := .dK (putK kvs (Sum.inl (n + 1)) (.ref p))) hh.hy (by intro xs z; cases z) hh.ly rfl
    have t3 := f3.tup
    have e3 : upd H2 y (.dK (putK kvs (Sum.inl (n + 1)) (.ref p))) a = some (.ins (pC K) dx (pf (n + 1) y)) := by rw [upd_ne nay]; exact e2
    have tp3 : upd H2 y (.dK (putK kvs (Sum.inl (n + 1)) (.ref p))) p = some (.tup [.int (n + 1), .str (kindS x.ab), .int x.sender, .int x.goal, v]) := ts_put y2 (by intro xs z; cases z) _ _ t2
    refine ⟨_, rfl, _, _, _, _, _, rfl, e3, T.c_Post, T.n_Post_last, pf_last, q _ _ f3 ⟨dx, y, _, ⟨e3, upd_same, ?_, hh.la, hh.ly⟩⟩⟩
    have := (hh.ry.mono fun _ _ g => g.mono t3).put inli (n + 1) (v := .ref p) (b := (n + 1, x)) (.tup tp3 (.cons (.int _) (.cons (.str _) (.cons (.int _) (.cons (.int _) (.cons (hv.mono t3) .nil))))))
    rw [Fm.dput_kd] at this
    exact this
theorem scLetters : FnScope ["self", "number"] ["self"] (defScope sP_letters) := ⟨rfl, rfl, rfl, by decide +kernel, rfl, by decide +kernel, by decide +kernel⟩
theorem ok_letters (T : Tx K mg) : Ok P w K mg base 1 dP_letters ["self"] (spLetters K) := by
  refine Ok.mk T 35 rfl ⟨rfl, rfl⟩ scLetters (fun vs H Q E h => ?_) (fun _ _ _ _ _ _ us hl => match us, hl with | [_], _ => rfl) (fun cdv A outer s H vs Q E hr h => ?_)
  · obtain ⟨l, ow, a, n, d, rfl, _⟩ := h
    rfl
  · obtain ⟨l, ow, a, n, d, rfl, ⟨dx, y, kvs, hh⟩, hz, q⟩ := h
    have hu := hu_of hr
    refine ⟨_, pss_one (ps_ret (pe_lc (own := [("number", 1)]) (g := gName 1) (tt := tYes) (te := tDGet (tFld K (tVar 0) "lying") (tVar 1)) rfl scLetters.nd (pi_list (pe_callB (call_sortI rfl) rfl T.f_sorted PyProof.Rows.boot_sorted (pa_cons (pe_fld (pv 0) rfl) pa_nil)))
          (blkOk_by (own := [("number", 1)]) (N := ["self", "number"]) (sc := defScope sP_letters) (by decide +kernel))
          (fun _ _ _ _ _ => pg_name (i := 1) scLetters.nd rfl (.inl rfl)) (fun _ _ _ _ _ => pts_nil) (fun _ _ _ _ _ => pe_dget hu (pe_fld (pv 0) rfl) (pv 1) (fun _ _ => rfl)))), ?_⟩
    have ek : kvs.map (·.1) = (Fm.keys d).map Sum.inl := by rw [hh.ry.keys, Fm.keys_kd]
    refine ⟨_, rfl, _, _, _, _, _, rfl, hh.ob, T.c_Post, T.n_Post_lying, pf_lying, y, _, Fm.keys d, rfl, .inl hh.hy, ek, fun ps np => ?_⟩
    have s1 := same_new (o := .lst ((Fm.sortI (Fm.keys d)).map V.int)) np
    have e1 : upd H ps (.lst ((Fm.sortI (Fm.keys d)).map V.int)) ps = some (.lst ((Fm.sortI (Fm.keys d)).map V.int)) := upd_same
    generalize upd H ps (.lst ((Fm.sortI (Fm.keys d)).map V.int)) = H1 at s1 e1
    refine ⟨ps, rfl, ⟨_, SqL.of e1⟩, fun D nD => ?_⟩
    have nD0 := s1.free nD
    have psD : ps ≠ D := ne_of_none e1 nD
    refine lc_it (walk_list (a := ps) (xs := (Fm.sortI (Fm.keys d)).map V.int)) (fun j H' => Same H H' ∧ H' ps = some (.lst ((Fm.sortI (Fm.keys d)).map V.int)) ∧ ∃ acc, H' D = some (.lst acc) ∧ DVs H' acc ((((Fm.sortI (Fm.keys d)).take j).filterMap fun n => (Fm.dget d n).map fun l => (n, l)).map dLt))
      ⟨s1.trans (same_new nD), by rw [upd_ne psD]; exact e1, [], upd_same, .nil⟩ (fun j H' _ z => SqL.of z.2.1) ?_ ?_
    · rintro j v H5 H4 hj ⟨sm, hp, acc, hD, hacc⟩ ⟨rfl, hv⟩
      obtain ⟨m, hm, rfl⟩ := map_at hv
      have hmk : m ∈ Fm.keys d := Fm.mem_sortI.mp (List.mem_of_getElem? hm)
      obtain ⟨x, ex⟩ := Fm.dget_some hmk
      obtain ⟨vx, evx, dvx⟩ := hh.ry.at_ inli (show Fm.dget (Fm.kd d) m = some (m, x) by rw [Fm.dget_kd, ex]; rfl)
      have gd := DGet.k (k := Sum.inl m) (sm _ _ hh.hy)
      rw [evx] at gd
      have et := take_succ_at hm
      have ts := ts_put (o' := .lst (acc ++ [vx])) hD (by intro xs z; cases z)
      refine ⟨rfl, _, rfl, _, _, _, _, _, rfl, sm _ _ hh.ob, T.c_Post, T.n_Post_lying, pf_lying, _, rfl, y, vx, rfl, gd, acc, hD, ?_, same_put sm nD0, by rw [upd_ne psD]; exact hp, _, upd_same, ?_⟩
      · have h1 := List.length_filterMap_le (fun n => (Fm.dget d n).map fun l => (n, l)) ((Fm.sortI (Fm.keys d)).take j)
        have h2 := List.length_take_le' j (Fm.sortI (Fm.keys d))
        have h3 := Fm.length_sortI (Fm.keys d)
        have h4 : (Fm.keys d).length = d.length := List.length_map ..
        rw [hacc.length, List.length_map, sizeLine_eq]
        omega
      · rw [et, List.filterMap_append]
        have hfm : [m].filterMap (fun n => (Fm.dget d n).map fun l => (n, l)) = [(m, x)] := by simp [ex]
        rw [hfm, List.map_append]
        exact (hacc.mono ts).snoc ((dvx.mono (Same.ts sm)).mono ts)
    · rintro H4 ⟨sm, hp, acc, hD, hacc⟩
      rw [List.length_map, List.take_length] at hacc
      exact q _ D acc sm nD0 hD hacc
theorem scTaken : FnScope ["self", "n"] ["self", "n"] (defScope sP_taken) := ⟨rfl, rfl, rfl, by decide +kernel, rfl, by decide +kernel, by decide +kernel⟩
theorem ok_taken (T : Tx K mg) : Ok P w K mg base 1 dP_taken ["self", "n"] (spTaken K) := by
  refine Ok.mk T 36 rfl ⟨rfl, rfl⟩ scTaken (fun vs H Q E h => ?_) (fun _ _ _ _ _ _ us hl => match us, hl with | [_, _], _ => rfl) (fun cdv A outer s H vs Q E hr h => ?_)
  · obtain ⟨l, ow, a, n, d, m, rfl, _⟩ := h
    rfl
  · obtain ⟨l, ow, a, n, d, m, rfl, ⟨dx, y, kvs, hh⟩, hcl, q⟩ := h
    have hu := hu_of hr
    refine ⟨_, pss_cons (ps_if (pt_cmp (pc_dnotin hu (pv 1) (pe_fld (pv 0) rfl)))
        (pss_one (ps_raise rfl (takes_of rfl rfl rfl rfl) (pmk_own PySem.F.excBase_ValueError T.e_NoLetter.1 T.g_NoLetter T.e_NoLetter.2.1 (raises_own T.e_NoLetter.2.2.1 T.e_NoLetter.2.2.2) rfl))) pss_nil)
      (pss_one (ps_ret (pe_dpop1 (pe_fld (pv 0) rfl) (pv 1) ⟨rfl, rfl, rfl, rfl⟩))), ?_⟩
    refine ⟨_, rfl, _, rfl, _, _, _, _, _, rfl, hh.ob, T.c_Post, T.n_Post_lying, pf_lying, _, _, rfl, DGet.k (k := Sum.inl m) hh.hy, _, rfl, ?_⟩
    cases e : Fm.dget d m with
    | none =>
      rw [e] at q
      rw [hh.ry.none_ inli (show Fm.dget (Fm.kd d) m = none by rw [Fm.dget_kd, e]; rfl)]
      exact iteT q
    | some x =>
      rw [e] at q
      obtain ⟨vx, evx, dvx⟩ := hh.ry.at_ inli (show Fm.dget (Fm.kd d) m = some (m, x) by rw [Fm.dget_kd, e]; rfl)
      rw [evx]
      refine iteF ⟨_, rfl, _, _, _, _, _, rfl, hh.ob, T.c_Post, T.n_Post_lying, pf_lying, _, rfl, .inl ⟨_, .inl hh.hy⟩, _, rfl, _, Sum.inl m, vx, hh.hy, rfl, evx, ?_⟩
      have f1 : Frm (fun m => m = l) H ow _ ow := (Frm.refl).lab (o' := .dK (dropK kvs (Sum.inl m))) hh.hy (by intro xs z; cases z) hh.ly rfl
      have nay : a ≠ y := ne_of hh.ob hh.hy (by intro z; cases z)
      refine q _ _ _ f1 ⟨dx, y, _, ⟨by rw [upd_ne nay]; exact hh.ob, upd_same, ?_, hh.la, hh.ly⟩⟩ (dvx.mono f1.tup)
      have := (hh.ry.mono fun _ _ g => g.mono f1.tup).drop inli m
      rw [Fm.ddrop_kd] at this
      exact this
end
end Fh

set_option Elab.async false
set_option linter.all false
set_option maxRecDepth 100000
set_option maxHeartbeats 4000000
namespace Fm
/-- what the walks ask of a world -/
structure WG (M : Wd) : Prop where
  hs : ∀ (j : Nat) S, M.hs[j]? = some S → HG (j : Int) S ∧ HB S ∧ HSm S
  hn : M.hs.length ≤ 4
  ly : M.lying.length ≤ 50000
  as_ : M.asked.length ≤ 1000
  an : M.answers.length ≤ 50000
  dn : M.done.length ≤ 1000
  qs : ∀ q ∈ M.asked, q.ticks.length ≤ 1000 ∧ q.states.length ≤ 1000 ∧ q.again.length ≤ 1000
theorem is_iff {M : Wd} {h : Int} : M.is h = true ↔ 0 ≤ h ∧ h < (M.hs.length : Int) := by unfold Wd.is; simp
theorem at_of {M : Wd} {h : Int} (e : M.is h = true) : M.hs[h.toNat]? = some (M.at h) := by
  have := is_iff.mp e
  unfold Wd.at
  rw [List.getD_eq_getElem?_getD, List.getElem?_eq_getElem (by omega)]
  rfl
theorem len_set (M : Wd) (h : Int) (S : Hs) : (M.set h S).hs.length = M.hs.length := List.length_set ..
theorem set_at {M : Wd} {h : Int} {S S' : Hs} {j : Nat} (e : (M.set h S).hs[j]? = some S') : (j = h.toNat ∧ S' = S) ∨ (j ≠ h.toNat ∧ M.hs[j]? = some S') := by
  unfold Wd.set at e
  rw [List.getElem?_set] at e
  split at e
  · rename_i c
    split at e
    · exact .inl ⟨c.symm, (Option.some.inj e).symm⟩
    · cases e
  · rename_i c
    exact .inr ⟨fun z => c z.symm, e⟩
end Fm
namespace Fh
open PySem PySem.Spec L2 FhR
open Fm (Th Hs StD Wd Er HG HB HSm Sts SZ Inq Lt Ab WG)
/-! ### a world's object -/
abbrev wC (K : PySem.W.Frag) : Addr := He.ga K "World"
def wf (s : Int) (phs po pas pan pdn : Addr) : List (Str × V) := [("share", .int s), ("houses", .ref phs), ("post", .ref po), ("asked", .ref pas), ("answers", .ref pan), ("done", .ref pdn)]
section
variable {s : Int} {phs po pas pan pdn : Addr}
theorem wf_share : (wf s phs po pas pan pdn).lookup ("share" : Str) = some (V.int s) := by kernel_rfl
theorem wf_houses : (wf s phs po pas pan pdn).lookup ("houses" : Str) = some (V.ref phs) := by kernel_rfl
theorem wf_post : (wf s phs po pas pan pdn).lookup ("post" : Str) = some (V.ref po) := by kernel_rfl
theorem wf_asked : (wf s phs po pas pan pdn).lookup ("asked" : Str) = some (V.ref pas) := by kernel_rfl
theorem wf_answers : (wf s phs po pas pan pdn).lookup ("answers" : Str) = some (V.ref pan) := by kernel_rfl
theorem wf_done : (wf s phs po pas pan pdn).lookup ("done" : Str) = some (V.ref pdn) := by kernel_rfl
theorem wf_house : (wf s phs po pas pan pdn).lookup ("house" : Str) = none := by kernel_rfl
theorem wf_state : (wf s phs po pas pan pdn).lookup ("state" : Str) = none := by kernel_rfl
theorem wf_letters : (wf s phs po pas pan pdn).lookup ("letters" : Str) = none := by kernel_rfl
theorem wf_inquiry : (wf s phs po pas pan pdn).lookup ("inquiry" : Str) = none := by kernel_rfl
theorem wf_make : (wf s phs po pas pan pdn).lookup ("make" : Str) = none := by kernel_rfl
theorem wf_hold : (wf s phs po pas pan pdn).lookup ("hold" : Str) = none := by kernel_rfl
theorem wf_drop : (wf s phs po pas pan pdn).lookup ("drop" : Str) = none := by kernel_rfl
theorem wf_take : (wf s phs po pas pan pdn).lookup ("take" : Str) = none := by kernel_rfl
theorem wf_free : (wf s phs po pas pan pdn).lookup ("free" : Str) = none := by kernel_rfl
theorem wf_send : (wf s phs po pas pan pdn).lookup ("send" : Str) = none := by kernel_rfl
theorem wf_backs : (wf s phs po pas pan pdn).lookup ("backs" : Str) = none := by kernel_rfl
theorem wf_clean : (wf s phs po pas pan pdn).lookup ("clean" : Str) = none := by kernel_rfl
theorem wf_asks : (wf s phs po pas pan pdn).lookup ("asks" : Str) = none := by kernel_rfl
theorem wf_ask : (wf s phs po pas pan pdn).lookup ("ask" : Str) = none := by kernel_rfl
theorem wf_answered : (wf s phs po pas pan pdn).lookup ("answered" : Str) = none := by kernel_rfl
theorem wf_heard : (wf s phs po pas pan pdn).lookup ("heard" : Str) = none := by kernel_rfl
theorem wf_lets : (wf s phs po pas pan pdn).lookup ("lets" : Str) = none := by kernel_rfl
theorem wf_passed : (wf s phs po pas pan pdn).lookup ("passed" : Str) = none := by kernel_rfl
theorem wf_deliver : (wf s phs po pas pan pdn).lookup ("deliver" : Str) = none := by kernel_rfl
theorem wf_init : putF "done" (.ref pdn) (putF "answers" (.ref pan) (putF "asked" (.ref pas) (putF "post" (.ref po) (putF "houses" (.ref phs) (putF "share" (.int s) []))))) = wf s phs po pas pan pdn := by kernel_rfl
end
structure WAd where
  dx : Addr
  phs : Addr
  po : Addr
  pas : Addr
  pan : Addr
  pdn : Addr
  has : List Addr
  qas : List Addr
  kan : List (Key × V)
  kdn : List (Key × V)
def dAns (e : Int × StD) : PyData := .tuple [.int e.1, dSt e.2]
structure WIs (K : PySem.W.Frag) (wid : Nat) (H : Hp) (ow : Ow) (a : Addr) (M : Wd) (x : WAd) : Prop where
  ob : H a = some (.ins (wC K) x.dx (wf M.share x.phs x.po x.pas x.pan x.pdn))
  hhs : H x.phs = some (.lst (x.has.map V.ref))
  hln : x.has.length = M.hs.length
  hat : ∀ (j : Nat) b S, x.has[j]? = some b → M.hs[j]? = some S → HAt (hC K) (wid, .hs j) H ow b j S
  post : PAt (pC K) (wid, .po) H ow x.po M.last M.lying
  has_ : H x.pas = some (.lst (x.qas.map V.ref))
  qln : x.qas.length = M.asked.length
  qat : ∀ (j : Nat) b q, x.qas[j]? = some b → M.asked[j]? = some q → QAt (qC K) (wid, .iq j) H ow b M.hs.length q
  han : H x.pan = some (.dK x.kan)
  ran : ERel Sum.inl (fun v (e : Int × StD) => DV H v (dAns e)) x.kan M.answers
  hdn : H x.pdn = some (.dK x.kdn)
  rdn : ERel Sum.inl (fun v (ts : List Th) => DV H v (dThs ts)) x.kdn M.done
  la : ow a = some (wid, .ms)
  lh : ow x.phs = some (wid, .ms)
  ls : ow x.pas = some (wid, .ms)
  ln : ow x.pan = some (wid, .ms)
  ld : ow x.pdn = some (wid, .ms)
  n1 : x.pan ≠ x.pdn
  n2 : x.phs ≠ x.pas
def WAt (K : PySem.W.Frag) (wid : Nat) (H : Hp) (ow : Ow) (a : Addr) (M : Wd) : Prop := ∃ x, WIs K wid H ow a M x
section
variable {K : PySem.W.Frag} {wid : Nat} {H H' : Hp} {ow ow' : Ow} {a : Addr} {M : Wd} {x : WAd}
/-- a world whose objects are not touched -/
theorem WIs.stay2 (h : WIs K wid H ow a M x) (k : ∀ b o l, H b = some o → ow b = some l → l.1 = wid → l.2 ≠ .iq M.asked.length → H' b = some o ∧ ow' b = ow b) (ts : TS H H') : WIs K wid H' ow' a M x where
  ob := (k _ _ _ h.ob h.la rfl (by intro z; cases z)).1
  hhs := (k _ _ _ h.hhs h.lh rfl (by intro z; cases z)).1
  hln := h.hln
  hat j b S e1 e2 := (h.hat j b S e1 e2).stay fun b o e1 e2 => k b o _ e1 e2 rfl (by intro z; cases z)
  post := h.post.stay (fun b o e1 e2 => k b o _ e1 e2 rfl (by intro z; cases z)) ts
  has_ := (k _ _ _ h.has_ h.ls rfl (by intro z; cases z)).1
  qln := h.qln
  qat j b S e1 e2 := (h.qat j b S e1 e2).stay (fun b o e3 e4 => k b o _ e3 e4 rfl (by
    intro z
    injection z with z
    have := (List.getElem?_eq_some_iff.mp e2).1
    omega)) ts
  han := (k _ _ _ h.han h.ln rfl (by intro z; cases z)).1
  ran := h.ran.mono fun _ _ g => g.mono ts
  hdn := (k _ _ _ h.hdn h.ld rfl (by intro z; cases z)).1
  rdn := h.rdn.mono fun _ _ g => g.mono ts
  la := by rw [(k _ _ _ h.ob h.la rfl (by intro z; cases z)).2]; exact h.la
  lh := by rw [(k _ _ _ h.hhs h.lh rfl (by intro z; cases z)).2]; exact h.lh
  ls := by rw [(k _ _ _ h.has_ h.ls rfl (by intro z; cases z)).2]; exact h.ls
  ln := by rw [(k _ _ _ h.han h.ln rfl (by intro z; cases z)).2]; exact h.ln
  ld := by rw [(k _ _ _ h.hdn h.ld rfl (by intro z; cases z)).2]; exact h.ld
  n1 := h.n1
  n2 := h.n2
theorem WIs.stay (h : WIs K wid H ow a M x) (k : ∀ b o l, H b = some o → ow b = some l → l.1 = wid → H' b = some o ∧ ow' b = ow b) (ts : TS H H') : WIs K wid H' ow' a M x := h.stay2 (fun b o l e1 e2 e3 _ => k b o l e1 e2 e3) ts
theorem WIs.same (h : WIs K wid H ow a M x) (s : Same H H') : WIs K wid H' ow a M x := h.stay (fun b o l e _ _ => ⟨s b o e, rfl⟩) (Same.ts s)
theorem WIs.frm {P : Lab → Prop} (h : WIs K wid H ow a M x) (f : Frm P H ow H' ow') (n : ∀ l, P l → l.1 ≠ wid) : WIs K wid H' ow' a M x :=
  h.stay (fun b o l e hl hw => f.at e (.inr ⟨l, hl, fun hp => n l hp hw⟩)) f.tup
/-- one house of it moves -/
theorem WIs.hset (h : WIs K wid H ow a M x) {j : Nat} {b : Addr} {S : Hs} (f : Frm (fun m => m = (wid, .hs j)) H ow H' ow') (hb : x.has[j]? = some b) (g : HAt (hC K) (wid, .hs j) H' ow' b j S) : WIs K wid H' ow' a (M.set j S) x := by
  have k : ∀ b o (p : Part), H b = some o → ow b = some (wid, p) → p ≠ .hs j → H' b = some o ∧ ow' b = ow b := fun b o p e1 e2 n => f.at e1 (.inr ⟨_, e2, fun z => n (congrArg Prod.snd z)⟩)
  have ms : Part.ms ≠ .hs j := by intro z; cases z
  refine ⟨(k _ _ _ h.ob h.la ms).1, (k _ _ _ h.hhs h.lh ms).1, by rw [Fm.len_set]; exact h.hln, fun i c T e1 e2 => ?_, h.post.stay (fun b o e1 e2 => k b o _ e1 e2 (by intro z; cases z)) f.tup, (k _ _ _ h.has_ h.ls ms).1, h.qln,
    fun i c q e1 e2 => by rw [Fm.len_set]; exact (h.qat i c q e1 e2).stay (fun b o e1 e2 => k b o _ e1 e2 (by intro z; cases z)) f.tup, (k _ _ _ h.han h.ln ms).1, h.ran.mono fun _ _ g => g.mono f.tup, (k _ _ _ h.hdn h.ld ms).1, h.rdn.mono fun _ _ g => g.mono f.tup, ?_, ?_, ?_, ?_, ?_, h.n1, h.n2⟩
  · rcases Fm.set_at e2 with ⟨ej, eT⟩ | ⟨nj, e3⟩
    · rw [Int.toNat_natCast] at ej
      subst ej
      rw [hb] at e1
      cases e1
      rw [eT]
      exact g
    · rw [Int.toNat_natCast] at nj
      exact (h.hat i c T e1 e3).stay fun b o e1 e2 => k b o _ e1 e2 (by intro z; injection z with z; exact nj (Int.ofNat_inj.mp z))
  · rw [(k _ _ _ h.ob h.la ms).2]; exact h.la
  · rw [(k _ _ _ h.hhs h.lh ms).2]; exact h.lh
  · rw [(k _ _ _ h.has_ h.ls ms).2]; exact h.ls
  · rw [(k _ _ _ h.han h.ln ms).2]; exact h.ln
  · rw [(k _ _ _ h.hdn h.ld ms).2]; exact h.ld
/-- its post moves -/
theorem WIs.pset (h : WIs K wid H ow a M x) {n : Int} {d : List (Int × Lt)} (f : Frm (fun m => m = (wid, .po)) H ow H' ow') (g : PAt (pC K) (wid, .po) H' ow' x.po n d) : WIs K wid H' ow' a { M with last := n, lying := d } x := by
  have k : ∀ b o (p : Part), H b = some o → ow b = some (wid, p) → p ≠ .po → H' b = some o ∧ ow' b = ow b := fun b o p e1 e2 n => f.at e1 (.inr ⟨_, e2, fun z => n (congrArg Prod.snd z)⟩)
  have ms : Part.ms ≠ .po := by intro z; cases z
  refine ⟨(k _ _ _ h.ob h.la ms).1, (k _ _ _ h.hhs h.lh ms).1, h.hln, fun i c T e1 e2 => (h.hat i c T e1 e2).stay fun b o e1 e2 => k b o _ e1 e2 (by intro z; cases z), g, (k _ _ _ h.has_ h.ls ms).1, h.qln,
    fun i c q e1 e2 => (h.qat i c q e1 e2).stay (fun b o e1 e2 => k b o _ e1 e2 (by intro z; cases z)) f.tup, (k _ _ _ h.han h.ln ms).1, h.ran.mono fun _ _ g => g.mono f.tup, (k _ _ _ h.hdn h.ld ms).1, h.rdn.mono fun _ _ g => g.mono f.tup, ?_, ?_, ?_, ?_, ?_, h.n1, h.n2⟩
  · rw [(k _ _ _ h.ob h.la ms).2]; exact h.la
  · rw [(k _ _ _ h.hhs h.lh ms).2]; exact h.lh
  · rw [(k _ _ _ h.has_ h.ls ms).2]; exact h.ls
  · rw [(k _ _ _ h.han h.ln ms).2]; exact h.ln
  · rw [(k _ _ _ h.hdn h.ld ms).2]; exact h.ld
/-- one inquiry moves -/
theorem WIs.qset (h : WIs K wid H ow a M x) {j : Nat} {b : Addr} {q : Inq} (f : Frm (fun m => m = (wid, .iq j)) H ow H' ow') (hb : x.qas[j]? = some b) (g : QAt (qC K) (wid, .iq j) H' ow' b M.hs.length q) : WIs K wid H' ow' a { M with asked := M.asked.set j q } x := by
  have k : ∀ b o (p : Part), H b = some o → ow b = some (wid, p) → p ≠ .iq j → H' b = some o ∧ ow' b = ow b := fun b o p e1 e2 n => f.at e1 (.inr ⟨_, e2, fun z => n (congrArg Prod.snd z)⟩)
  have ms : Part.ms ≠ .iq j := by intro z; cases z
  refine ⟨(k _ _ _ h.ob h.la ms).1, (k _ _ _ h.hhs h.lh ms).1, h.hln, fun i c T e1 e2 => (h.hat i c T e1 e2).stay fun b o e1 e2 => k b o _ e1 e2 (by intro z; cases z), h.post.stay (fun b o e1 e2 => k b o _ e1 e2 (by intro z; cases z)) f.tup, (k _ _ _ h.has_ h.ls ms).1,
    by show x.qas.length = (M.asked.set j q).length; rw [List.length_set]; exact h.qln,
    fun i c r e1 e2 => ?_, (k _ _ _ h.han h.ln ms).1, h.ran.mono fun _ _ g => g.mono f.tup, (k _ _ _ h.hdn h.ld ms).1, h.rdn.mono fun _ _ g => g.mono f.tup, ?_, ?_, ?_, ?_, ?_, h.n1, h.n2⟩
  · have e2' : (M.asked.set j q)[i]? = some r := e2
    rw [List.getElem?_set] at e2'
    split at e2'
    · rename_i c
      subst c
      rw [hb] at e1
      cases e1
      split at e2'
      · cases e2'
        exact g
      · cases e2'
    · rename_i nj
      exact (h.qat i c r e1 e2').stay (fun b o e1 e2 => k b o _ e1 e2 (by intro z; injection z with z; exact nj z.symm)) f.tup
  · rw [(k _ _ _ h.ob h.la ms).2]; exact h.la
  · rw [(k _ _ _ h.hhs h.lh ms).2]; exact h.lh
  · rw [(k _ _ _ h.has_ h.ls ms).2]; exact h.ls
  · rw [(k _ _ _ h.han h.ln ms).2]; exact h.ln
  · rw [(k _ _ _ h.hdn h.ld ms).2]; exact h.ld
/-- the dict of answers is changed -/
theorem WIs.an' (h : WIs K wid H ow a M x) {kan : List (Key × V)} {d : List (Int × (Int × StD))} (r : ERel Sum.inl (fun v (e : Int × StD) => DV (upd H x.pan (.dK kan)) v (dAns e)) kan d) : WIs K wid (upd H x.pan (.dK kan)) ow a { M with answers := d } { x with kan := kan } := by
  have ts := ts_put (o' := .dK kan) h.han (by intro xs z; cases z)
  have k : ∀ b o (p : Part), H b = some o → ow b = some (wid, p) → p ≠ .ms → upd H x.pan (.dK kan) b = some o ∧ ow b = ow b := fun b o p e1 e2 n => ⟨by
    rw [upd_ne fun z => by rw [z, h.ln] at e2; cases e2; exact n rfl]
    exact e1, rfl⟩
  refine ⟨?_, ?_, h.hln, fun i c T e1 e2 => (h.hat i c T e1 e2).stay fun b o e1 e2 => k b o _ e1 e2 (by intro z; cases z), h.post.stay (fun b o e1 e2 => k b o _ e1 e2 (by intro z; cases z)) ts, ?_, h.qln,
    fun i c q e1 e2 => (h.qat i c q e1 e2).stay (fun b o e1 e2 => k b o _ e1 e2 (by intro z; cases z)) ts, upd_same, r, ?_, h.rdn.mono fun _ _ g => g.mono ts, h.la, h.lh, h.ls, h.ln, h.ld, h.n1, h.n2⟩
  · rw [upd_ne (ne_of h.ob h.han (by intro z; cases z))]; exact h.ob
  · rw [upd_ne (ne_of h.hhs h.han (by intro z; cases z))]; exact h.hhs
  · rw [upd_ne (ne_of h.has_ h.han (by intro z; cases z))]; exact h.has_
  · rw [upd_ne h.n1.symm]; exact h.hdn
/-- the dict of what was found is changed -/
theorem WIs.dn' (h : WIs K wid H ow a M x) {kdn : List (Key × V)} {d : List (Int × List Th)} (r : ERel Sum.inl (fun v (ts : List Th) => DV (upd H x.pdn (.dK kdn)) v (dThs ts)) kdn d) : WIs K wid (upd H x.pdn (.dK kdn)) ow a { M with done := d } { x with kdn := kdn } := by
  have ts := ts_put (o' := .dK kdn) h.hdn (by intro xs z; cases z)
  have k : ∀ b o (p : Part), H b = some o → ow b = some (wid, p) → p ≠ .ms → upd H x.pdn (.dK kdn) b = some o ∧ ow b = ow b := fun b o p e1 e2 n => ⟨by
    rw [upd_ne fun z => by rw [z, h.ld] at e2; cases e2; exact n rfl]
    exact e1, rfl⟩
  refine ⟨?_, ?_, h.hln, fun i c T e1 e2 => (h.hat i c T e1 e2).stay fun b o e1 e2 => k b o _ e1 e2 (by intro z; cases z), h.post.stay (fun b o e1 e2 => k b o _ e1 e2 (by intro z; cases z)) ts, ?_, h.qln,
    fun i c q e1 e2 => (h.qat i c q e1 e2).stay (fun b o e1 e2 => k b o _ e1 e2 (by intro z; cases z)) ts, ?_, h.ran.mono fun _ _ g => g.mono ts, upd_same, r, h.la, h.lh, h.ls, h.ln, h.ld, h.n1, h.n2⟩
  · rw [upd_ne (ne_of h.ob h.hdn (by intro z; cases z))]; exact h.ob
  · rw [upd_ne (ne_of h.hhs h.hdn (by intro z; cases z))]; exact h.hhs
  · rw [upd_ne (ne_of h.has_ h.hdn (by intro z; cases z))]; exact h.has_
  · rw [upd_ne h.n1]; exact h.han
/-- a new inquiry -/
theorem WIs.as' (h : WIs K wid H ow a M x) {b : Addr} {q : Inq} (g : QAt (qC K) (wid, .iq M.asked.length) H ow b M.hs.length q) : WIs K wid (upd H x.pas (.lst ((x.qas ++ [b]).map V.ref))) ow a { M with asked := M.asked ++ [q] } { x with qas := x.qas ++ [b] } := by
  have ts := ts_put (o' := .lst ((x.qas ++ [b]).map V.ref)) h.has_ (by intro xs z; cases z)
  have k : ∀ c o (p : Part), H c = some o → ow c = some (wid, p) → p ≠ .ms → upd H x.pas (.lst ((x.qas ++ [b]).map V.ref)) c = some o ∧ ow c = ow c := fun b o p e1 e2 n => ⟨by
    rw [upd_ne fun z => by rw [z, h.ls] at e2; cases e2; exact n rfl]
    exact e1, rfl⟩
  refine ⟨?_, ?_, h.hln, fun i c T e1 e2 => (h.hat i c T e1 e2).stay fun b o e1 e2 => k b o _ e1 e2 (by intro z; cases z), h.post.stay (fun b o e1 e2 => k b o _ e1 e2 (by intro z; cases z)) ts, upd_same, ?_,
    fun i c r e1 e2 => ?_, ?_, h.ran.mono fun _ _ g => g.mono ts, ?_, h.rdn.mono fun _ _ g => g.mono ts, h.la, h.lh, h.ls, h.ln, h.ld, h.n1, h.n2⟩
  · rw [upd_ne (ne_of h.ob h.has_ (by intro z; cases z))]; exact h.ob
  · rw [upd_ne h.n2]; exact h.hhs
  · show (x.qas ++ [b]).length = (M.asked ++ [q]).length
    rw [List.length_append, List.length_append, h.qln]
    rfl
  · have e1' : (x.qas ++ [b])[i]? = some c := e1
    have e2' : (M.asked ++ [q])[i]? = some r := e2
    by_cases hi : i < M.asked.length
    · rw [List.getElem?_append_left (by rw [h.qln]; exact hi)] at e1'
      rw [List.getElem?_append_left hi] at e2'
      exact (h.qat i c r e1' e2').stay (fun b o e1 e2 => k b o _ e1 e2 (by intro z; cases z)) ts
    · have hi2 : i = M.asked.length := by
        have := (List.getElem?_eq_some_iff.mp e2').1
        rw [List.length_append, List.length_singleton] at this
        omega
      subst hi2
      rw [List.getElem?_append_right (by rw [h.qln]; exact Nat.le_refl _)] at e1'
      rw [List.getElem?_append_right (Nat.le_refl _)] at e2'
      rw [h.qln] at e1'
      simp at e1' e2'
      subst e1' e2'
      exact g.stay (fun b o e1 e2 => k b o _ e1 e2 (by intro z; cases z)) ts
  · rw [upd_ne (ne_of h.han h.has_ (by intro z; cases z))]; exact h.han
  · rw [upd_ne (ne_of h.hdn h.has_ (by intro z; cases z))]; exact h.hdn
theorem WIs.house (h : WIs K wid H ow a M x) {i : Int} (e : M.is i = true) : ∃ b, x.has[i.toNat]? = some b ∧ HAt (hC K) (wid, .hs i) H ow b i (M.at i) := by
  have hi := Fm.is_iff.mp e
  have hlt : i.toNat < x.has.length := by rw [h.hln]; omega
  refine ⟨x.has[i.toNat], List.getElem?_eq_getElem hlt, ?_⟩
  have := h.hat i.toNat _ _ (List.getElem?_eq_getElem hlt) (Fm.at_of e)
  rw [Int.toNat_of_nonneg hi.1] at this
  exact this
theorem WIs.hset' (h : WIs K wid H ow a M x) {i : Int} {b : Addr} {S : Hs} (e : M.is i = true) (f : Frm (fun m => m = (wid, .hs i)) H ow H' ow') (hb : x.has[i.toNat]? = some b) (g : HAt (hC K) (wid, .hs i) H' ow' b i S) : WIs K wid H' ow' a (M.set i S) x := by
  have hi := Fm.is_iff.mp e
  obtain ⟨j, rfl⟩ : ∃ j : Nat, i = (j : Int) := ⟨i.toNat, by omega⟩
  exact h.hset f hb g
end
theorem frmW {wid : Nat} {p : Part} {H H' : Hp} {ow ow' : Ow} (f : Frm (fun m => m = (wid, p)) H ow H' ow') : Frm (fun l => l.1 = wid) H ow H' ow' := f.mono fun l e => by rw [e]
end Fh

set_option Elab.async false
set_option linter.all false
set_option maxRecDepth 100000
set_option maxHeartbeats 4000000
namespace Fh
open PySem PySem.Spec L2 FhR
open Fm (Th Hs StD Wd Er HG HB HSm Sts SZ Inq Lt Ab WG)
theorem atI_map {l : List Addr} {h : Int} {b : Addr} (h0 : 0 ≤ h) (e : l[h.toNat]? = some b) : atI (l.map V.ref) h = some (.ref b) := by
  obtain ⟨j, rfl⟩ : ∃ j : Nat, h = (j : Int) := ⟨h.toNat, by omega⟩
  rw [Int.toNat_natCast] at e
  refine atI_nat ?_
  rw [List.getElem?_map, e]
  rfl
theorem hf_make {i m t : Int} {hd hg ho hr : Addr} : (hf i m t hd hg ho hr).lookup ("make" : Str) = none := by kernel_rfl
theorem hf_state {i m t : Int} {hd hg ho hr : Addr} : (hf i m t hd hg ho hr).lookup ("state" : Str) = none := by kernel_rfl
theorem hf_hold {i m t : Int} {hd hg ho hr : Addr} : (hf i m t hd hg ho hr).lookup ("hold" : Str) = none := by kernel_rfl
theorem hf_drop {i m t : Int} {hd hg ho hr : Addr} : (hf i m t hd hg ho hr).lookup ("drop" : Str) = none := by kernel_rfl
theorem hf_take {i m t : Int} {hd hg ho hr : Addr} : (hf i m t hd hg ho hr).lookup ("take" : Str) = none := by kernel_rfl
theorem hf_free {i m t : Int} {hd hg ho hr : Addr} : (hf i m t hd hg ho hr).lookup ("free" : Str) = none := by kernel_rfl
theorem hf_is_last {i m t : Int} {hd hg ho hr : Addr} : (hf i m t hd hg ho hr).lookup ("is_last" : Str) = none := by kernel_rfl
theorem hf_part {i m t : Int} {hd hg ho hr : Addr} : (hf i m t hd hg ho hr).lookup ("part" : Str) = none := by kernel_rfl
theorem hf_came {i m t : Int} {hd hg ho hr : Addr} : (hf i m t hd hg ho hr).lookup ("came" : Str) = none := by kernel_rfl
theorem hf_passed {i m t : Int} {hd hg ho hr : Addr} : (hf i m t hd hg ho hr).lookup ("passed" : Str) = none := by kernel_rfl
theorem hf_clean {i m t : Int} {hd hg ho hr : Addr} : (hf i m t hd hg ho hr).lookup ("clean" : Str) = none := by kernel_rfl
theorem hf_let {i m t : Int} {hd hg ho hr : Addr} : (hf i m t hd hg ho hr).lookup ("let" : Str) = none := by kernel_rfl
theorem hf_tick {i m t : Int} {hd hg ho hr : Addr} : (hf i m t hd hg ho hr).lookup ("tick" : Str) = none := by kernel_rfl
/-- what a deed of a world leaves -/
def AftW (K : PySem.W.Frag) (wid : Nat) (H : Hp) (ow : Ow) (a : Addr) (M' : Wd) (k : Hp → Prop) : Prop := ∀ H' ow', Frm (fun l => l.1 = wid) H ow H' ow' → WAt K wid H' ow' a M' → k H'
def ResW (K : PySem.W.Frag) (wid : Nat) (H : Hp) (ow : Ow) (a : Addr) (r : Except Er Wd) (Q : VK) (E : XK) : Prop :=
  match r with
  | .ok M' => AftW K wid H ow a M' (Q .non)
  | .error e => E (exn K e) none H
def spWHouse (K : PySem.W.Frag) : Sp := fun vs H Q E => ∃ (wid : Nat) (ow : Ow) (a : Addr) (M : Wd) (x : WAd) (h : Int), vs = [.ref a, .int h] ∧ WIs K wid H ow a M x ∧ M.hs.length ≤ 4 ∧
  (M.is h = true → ∀ b, x.has[h.toNat]? = some b → HAt (hC K) (wid, .hs h) H ow b h (M.at h) → Q (.ref b) H) ∧ (M.is h = false → E (exn K .noHouse) none H)
def spWState (K : PySem.W.Frag) : Sp := fun vs H Q E => ∃ (wid : Nat) (ow : Ow) (a : Addr) (M : Wd) (h : Int), vs = [.ref a, .int h] ∧ WAt K wid H ow a M ∧ WG M ∧
  (M.is h = true → ∀ v H', Same H H' → DV H' v (dSt ((M.at h).state h)) → Q v H') ∧ (M.is h = false → E (exn K .noHouse) none H)
def spWLetters (K : PySem.W.Frag) : Sp := fun vs H Q _ => ∃ (wid : Nat) (ow : Ow) (a : Addr) (M : Wd), vs = [.ref a] ∧ WAt K wid H ow a M ∧ WG M ∧
  ∀ H' r ws, Same H H' → H r = none → H' r = some (.lst ws) → DVs H' ws (M.letters.map dLt) → Q (.ref r) H'
def dInq (M : Wd) (n : Int) : PyData := .tuple [.bool (Fm.dget M.done n).isSome, dThs ((Fm.dget M.done n).getD [])]
def spWInquiry (K : PySem.W.Frag) : Sp := fun vs H Q E => ∃ (wid : Nat) (ow : Ow) (a : Addr) (M : Wd) (n : Int), vs = [.ref a, .int n] ∧ WAt K wid H ow a M ∧ WG M ∧
  ((1 ≤ n ∧ n ≤ (M.asked.length : Int)) → ∀ v H', Same H H' → DV H' v (dInq M n) → Q v H') ∧ (¬ (1 ≤ n ∧ n ≤ (M.asked.length : Int)) → E (exn K .noInquiry) none H)
def spWMake (K : PySem.W.Frag) : Sp := fun vs H Q E => ∃ (wid : Nat) (ow : Ow) (a : Addr) (M : Wd) (h : Int), vs = [.ref a, .int h] ∧ WAt K wid H ow a M ∧ Clean H ow ∧ WG M ∧
  match M.make h with
  | .ok (M', t) => ∀ H' ow' v, Frm (fun l => l.1 = wid) H ow H' ow' → WAt K wid H' ow' a M' → DV H' v (dTh t) → Q v H'
  | .error e => E (exn K e) none H
def spWDeed2 (K : PySem.W.Frag) (f : Wd → Int → Th → Th → Except Er Wd) : Sp := fun vs H Q E => ∃ (wid : Nat) (ow : Ow) (a : Addr) (M : Wd) (h : Int) (v1 v2 : V) (t1 t2 : Th), vs = [.ref a, .int h, v1, v2] ∧ WAt K wid H ow a M ∧ Clean H ow ∧ WG M ∧ DV H v1 (dTh t1) ∧ DV H v2 (dTh t2) ∧
  ResW K wid H ow a (f M h t1 t2) Q E
def spWDeed1 (K : PySem.W.Frag) (f : Wd → Int → Th → Except Er Wd) : Sp := fun vs H Q E => ∃ (wid : Nat) (ow : Ow) (a : Addr) (M : Wd) (h : Int) (v1 : V) (t1 : Th), vs = [.ref a, .int h, v1] ∧ WAt K wid H ow a M ∧ Clean H ow ∧ WG M ∧ DV H v1 (dTh t1) ∧
  ResW K wid H ow a (f M h t1) Q E
section
variable {P : Program} {w : World} {K : PySem.W.Frag} {mg : Str → Option Value} {base : Heap}
theorem scWHouse : FnScope ["self", "h"] ["self", "h"] (defScope sW_house) := ⟨rfl, rfl, rfl, by decide +kernel, rfl, by decide +kernel, by decide +kernel⟩
theorem ok_whouse (T : Tx K mg) : Ok P w K mg base 1 dW_house ["self", "h"] (spWHouse K) := by
  refine Ok.mk T 38 rfl ⟨rfl, rfl⟩ scWHouse (fun vs H Q E h => ?_) (fun _ _ _ _ _ _ us hl => match us, hl with | [_, _], _ => rfl) (fun cdv A outer s H vs Q E hr h => ?_)
  · obtain ⟨wid, ow, a, M, x, h, rfl, _⟩ := h
    rfl
  · obtain ⟨wid, ow, a, M, x, h, rfl, hw, hn, q1, q2⟩ := h
    refine ⟨_, pss_cons (ps_if (pt_not (pt_chain op_le op_lt pe_int (pv 1) (pe_callB call_len rfl T.f_len boot_len (pa_cons (pe_fld (pv 0) rfl) pa_nil))))
        (pss_one (ps_raise rfl (takes_of rfl rfl rfl rfl) (pmk_own PySem.F.excBase_ValueError T.e_NoHouse.1 T.g_NoHouse T.e_NoHouse.2.1 (raises_own T.e_NoHouse.2.2.1 T.e_NoHouse.2.2.2) rfl))) pss_nil)
      (pss_one (ps_ret (pe_ix ix_list (pe_fld (pv 0) rfl) (pv 1) (fun _ _ => rfl)))), ?_⟩
    refine ⟨_, rfl, _, _, rfl, rfl, _, rfl, ?_⟩
    have hlen : ((x.has.map V.ref).length : Int) = M.hs.length := by rw [List.length_map, hw.hln]
    by_cases c1 : (0 : Int) ≤ h
    · rw [decide_eq_true c1]
      refine iteT ⟨_, rfl, _, _, _, _, _, rfl, hw.ob, T.c_World, T.n_World_houses, wf_houses, _, _, rfl, .inl ⟨_, SqL.of hw.hhs, rfl⟩, _, _, rfl, rfl, _, rfl, ?_⟩
      rw [hlen]
      by_cases c2 : h < (M.hs.length : Int)
      · rw [decide_eq_true c2]
        have e : M.is h = true := Fm.is_iff.mpr ⟨c1, c2⟩
        obtain ⟨b, hb, hhb⟩ := hw.house e
        refine iteF ⟨_, rfl, _, _, _, _, _, rfl, hw.ob, T.c_World, T.n_World_houses, wf_houses, _, rfl, _, _, _, _, rfl, rfl, SqL.of hw.hhs, atI_map c1 hb, q1 e b hb hhb⟩
      · rw [decide_eq_false c2]
        have e : M.is h = false := by
          cases e : M.is h with
          | false => rfl
          | true => exact absurd (Fm.is_iff.mp e).2 c2
        exact iteT (q2 e)
    · rw [decide_eq_false c1]
      have e : M.is h = false := by
        cases e : M.is h with
        | false => rfl
        | true => exact absurd (Fm.is_iff.mp e).1 c1
      exact iteF ⟨_, rfl, iteT (q2 e)⟩
theorem scWState : FnScope ["self", "h"] ["self", "h"] (defScope sW_state) := ⟨rfl, rfl, rfl, by decide +kernel, rfl, by decide +kernel, by decide +kernel⟩
theorem ok_wstate (T : Tx K mg) : Ok P w K mg base 2 dW_state ["self", "h"] (spWState K) := by
  obtain ⟨f1, F1, b1, k1⟩ := ok_whouse (P := P) (w := w) (base := base) T
  obtain ⟨f2, F2, b2, k2⟩ := ok_state (P := P) (w := w) (base := base) T
  refine Ok.mk T 39 rfl ⟨rfl, rfl⟩ scWState (fun vs H Q E h => ?_) (fun _ _ _ _ _ _ us hl => match us, hl with | [_, _], _ => rfl) (fun cdv A outer s H vs Q E hr h => ?_)
  · obtain ⟨wid, ow, a, M, h, rfl, _⟩ := h
    rfl
  · obtain ⟨wid, ow, a, M, h, rfl, ⟨x, hw⟩, hg, q1, q2⟩ := h
    refine ⟨_, pss_one (ps_ret (pe_meth0 (pe_meth (pv 0) T.c_World T.m_World_house F1 hr b1 .nil (passC (takes_of rfl rfl rfl rfl)) (pa_cons (pv 1) pa_nil)) T.c_House T.m_House_state F2 hr b2 .nil passL)), ?_⟩
    refine ⟨_, rfl, _, _, _, rfl, hw.ob, wf_house, _, rfl, wid, ow, a, M, x, h, rfl, hw, hg.hn, fun e b hb hhb => ?_, q2⟩
    obtain ⟨y, hy⟩ := hhb
    obtain ⟨g1, g2, g3⟩ := hg.hs _ _ (Fm.at_of e)
    have gko := g1.ko
    refine ⟨_, _, _, rfl, hy.ob, hf_state, _, ow, b, h, M.at h, rfl, ⟨y, hy⟩, g2, g1.ko, g1.nd, g1.rn, fun v H' sm dv => q1 e v H' sm dv⟩
theorem scWLetters : FnScope ["self"] ["self"] (defScope sW_letters) := ⟨rfl, rfl, rfl, by decide +kernel, rfl, by decide +kernel, by decide +kernel⟩
theorem ok_wletters (T : Tx K mg) : Ok P w K mg base 2 dW_letters ["self"] (spWLetters K) := by
  obtain ⟨f1, F1, b1, k1⟩ := ok_letters (P := P) (w := w) (base := base) T
  refine Ok.mk T 40 rfl ⟨rfl, rfl⟩ scWLetters (fun vs H Q E h => ?_) (fun _ _ _ _ _ _ us hl => match us, hl with | [_], _ => rfl) (fun cdv A outer s H vs Q E hr h => ?_)
  · obtain ⟨wid, ow, a, M, rfl, _⟩ := h
    rfl
  · obtain ⟨wid, ow, a, M, rfl, ⟨x, hw⟩, hg, q⟩ := h
    refine ⟨_, pss_one (ps_ret (pe_meth0 (pe_fld (pv 0) rfl) T.c_Post T.m_Post_letters F1 hr b1 .nil passL)), ?_⟩
    obtain ⟨dx, y, kvs, hp⟩ := id hw.post
    refine ⟨_, rfl, _, _, _, _, _, rfl, hw.ob, T.c_World, T.n_World_post, wf_post, _, _, _, rfl, hp.ob, pf_letters, _, ow, x.po, M.last, M.lying, rfl, hw.post, Nat.le_trans hg.ly (by omega), fun H' r ws sm nr er dv => q H' r ws sm nr er dv⟩
theorem scWInquiry : FnScope ["self", "n"] ["self", "n"] (defScope sW_inquiry) := ⟨rfl, rfl, rfl, by decide +kernel, rfl, by decide +kernel, by decide +kernel⟩
theorem ok_winquiry (T : Tx K mg) : Ok P w K mg base 1 dW_inquiry ["self", "n"] (spWInquiry K) := by
  refine Ok.mk T 41 rfl ⟨rfl, rfl⟩ scWInquiry (fun vs H Q E h => ?_) (fun _ _ _ _ _ _ us hl => match us, hl with | [_, _], _ => rfl) (fun cdv A outer s H vs Q E hr h => ?_)
  · obtain ⟨wid, ow, a, M, n, rfl, _⟩ := h
    rfl
  · obtain ⟨wid, ow, a, M, n, rfl, ⟨x, hw⟩, hg, q1, q2⟩ := h
    have hu := hu_of hr
    refine ⟨_, pss_cons (ps_if (pt_not (pt_chain op_le op_le pe_int (pv 1) (pe_callB call_len rfl T.f_len boot_len (pa_cons (pe_fld (pv 0) rfl) pa_nil))))
        (pss_one (ps_raise rfl (takes_of rfl rfl rfl rfl) (pmk_own PySem.F.excBase_ValueError T.e_NoInquiry.1 T.g_NoInquiry T.e_NoInquiry.2.1 (raises_own T.e_NoInquiry.2.2.1 T.e_NoInquiry.2.2.2) rfl))) pss_nil)
      (pss_one (ps_ret (pe_tup (pa_cons (pe_cmp (pc_din hu (pv 1) (pe_fld (pv 0) rfl))) (pa_cons (pe_dget2 hu (pe_fld (pv 0) rfl) (pv 1) (pe_tup pa_nil) ⟨rfl, rfl, rfl, rfl⟩) pa_nil))))), ?_⟩
    refine ⟨_, rfl, _, _, rfl, rfl, _, rfl, ?_⟩
    have hlen : ((x.qas.map V.ref).length : Int) = M.asked.length := by rw [List.length_map, hw.qln]
    by_cases c1 : (1 : Int) ≤ n
    · rw [decide_eq_true c1]
      refine iteT ⟨_, rfl, _, _, _, _, _, rfl, hw.ob, T.c_World, T.n_World_asked, wf_asked, _, _, rfl, .inl ⟨_, SqL.of hw.has_, rfl⟩, _, _, rfl, rfl, _, rfl, ?_⟩
      rw [hlen]
      by_cases c2 : n ≤ (M.asked.length : Int)
      · rw [decide_eq_true c2]
        have gd := DGet.k (k := Sum.inl n) hw.hdn
        refine iteF ⟨_, rfl, _, rfl, _, _, _, _, _, rfl, hw.ob, T.c_World, T.n_World_done, wf_done, _, _, rfl, gd, _, rfl, _, _, _, _, _, rfl, hw.ob, T.c_World, T.n_World_done, wf_done, _, rfl, .inl ⟨_, .inl hw.hdn⟩, _, rfl, (by show 0 ≤ sizeLine; exact Nat.zero_le _), fun p1 n1 => ?_⟩
        have w1 := hw.same (same_new (o := .tup []) n1)
        have s1 := same_new (o := .tup []) n1
        have e1 : upd H p1 (.tup []) p1 = some (.tup []) := upd_same
        generalize upd H p1 (.tup []) = H1 at w1 s1 e1
        have hv : (valV x.kdn (Sum.inl n)).isSome = (Fm.dget M.done n).isSome ∧ DV H1 ((valV x.kdn (Sum.inl n)).getD (.ref p1)) (dThs ((Fm.dget M.done n).getD [])) := by
          rcases w1.rdn.get inli n with ⟨e2, e3⟩ | ⟨ts, vt, e2, e3, g⟩
          · rw [e3, e2]
            exact ⟨rfl, .tup e1 .nil⟩
          · rw [e3, e2]
            exact ⟨rfl, g⟩
        refine ⟨_, DGet.k (k := Sum.inl n) w1.hdn, (by show 2 ≤ sizeLine; decide), fun p2 n2 => ?_⟩
        have s2 := same_new (o := .tup [.bl (valV x.kdn (Sum.inl n)).isSome, (valV x.kdn (Sum.inl n)).getD (.ref p1)]) n2
        refine q1 ⟨c1, c2⟩ _ _ (s1.trans s2) (.tup upd_same (.cons ?_ (.cons (hv.2.mono (Same.ts s2)) .nil)))
        rw [hv.1]
        exact .bl _
      · rw [decide_eq_false c2]
        exact iteT (q2 fun z => c2 z.2)
    · rw [decide_eq_false c1]
      exact iteF ⟨_, rfl, iteT (q2 fun z => c1 z.1)⟩
theorem scWMake : FnScope ["self", "h"] ["self", "h"] (defScope sW_make) := ⟨rfl, rfl, rfl, by decide +kernel, rfl, by decide +kernel, by decide +kernel⟩
theorem ok_wmake (T : Tx K mg) : Ok P w K mg base 2 dW_make ["self", "h"] (spWMake K) := by
  obtain ⟨f1, F1, b1, k1⟩ := ok_whouse (P := P) (w := w) (base := base) T
  obtain ⟨f2, F2, b2, k2⟩ := ok_make (P := P) (w := w) (base := base) T
  refine Ok.mk T 42 rfl ⟨rfl, rfl⟩ scWMake (fun vs H Q E h => ?_) (fun _ _ _ _ _ _ us hl => match us, hl with | [_, _], _ => rfl) (fun cdv A outer s H vs Q E hr h => ?_)
  · obtain ⟨wid, ow, a, M, h, rfl, _⟩ := h
    rfl
  · obtain ⟨wid, ow, a, M, h, rfl, ⟨x, hw⟩, hcl, hg, q⟩ := h
    refine ⟨_, pss_one (ps_ret (pe_meth0 (pe_meth (pv 0) T.c_World T.m_World_house F1 hr b1 .nil (passC (takes_of rfl rfl rfl rfl)) (pa_cons (pv 1) pa_nil)) T.c_House T.m_House_make F2 hr b2 .nil passL)), ?_⟩
    unfold Wd.make at q
    refine ⟨_, rfl, _, _, _, rfl, hw.ob, wf_house, _, rfl, wid, ow, a, M, x, h, rfl, hw, hg.hn, fun e b hb hhb => ?_, fun e => ?_⟩
    · rw [if_pos e] at q
      obtain ⟨y, hy⟩ := hhb
      obtain ⟨g1, g2, g3⟩ := hg.hs _ _ (Fm.at_of e)
      rw [Int.toNat_of_nonneg (Fm.is_iff.mp e).1] at g1
      refine ⟨_, _, _, rfl, hy.ob, hf_make, _, ow, b, h, M.at h, rfl, ⟨y, hy⟩, hcl, g1, g2, fun H' ow' v f g dv => q H' ow' v (frmW f) ⟨x, hw.hset' e f hb g⟩ dv⟩
    · rw [if_neg (by rw [e]; decide)] at q
      exact q
theorem scWHold : FnScope ["self", "h", "a", "b"] ["self", "h", "a", "b"] (defScope sW_hold) := ⟨rfl, rfl, rfl, by decide +kernel, rfl, by decide +kernel, by decide +kernel⟩
theorem ok_whold (T : Tx K mg) : Ok P w K mg base 4 dW_hold ["self", "h", "a", "b"] (spWDeed2 K Wd.hold) := by
  obtain ⟨f1, F1, b1, k1⟩ := ok_whouse (P := P) (w := w) (base := base) T
  obtain ⟨f2, F2, b2, k2⟩ := ok_hold (P := P) (w := w) (base := base) T
  refine Ok.mk T 43 rfl ⟨rfl, rfl⟩ scWHold (fun vs H Q E h => ?_) (fun _ _ _ _ _ _ us hl => match us, hl with | [_, _, _, _], _ => rfl) (fun cdv A outer s H vs Q E hr h => ?_)
  · obtain ⟨wid, ow, a, M, h, v1, v2, t1, t2, rfl, _⟩ := h
    rfl
  · obtain ⟨wid, ow, a, M, h, v1, v2, t1, t2, rfl, ⟨x, hw⟩, hcl, hg, d1, d2, q⟩ := h
    refine ⟨_, pss_one (ps_expr (pe_meth (pe_meth (pv 0) T.c_World T.m_World_house F1 (hr.mono (by decide)) b1 .nil (passC (takes_of rfl rfl rfl rfl)) (pa_cons (pv 1) pa_nil)) T.c_House T.m_House_hold F2 hr b2 .nil (passC (takes_of rfl rfl rfl rfl)) (pa_cons (pv 2) (pa_cons (pv 3) pa_nil)))), ?_⟩
    unfold Wd.hold Wd.act at q
    refine ⟨_, rfl, _, _, _, rfl, hw.ob, wf_house, _, rfl, wid, ow, a, M, x, h, rfl, hw, hg.hn, fun e b hb hhb => ?_, fun e => ?_⟩
    · rw [if_pos e] at q
      obtain ⟨y, hy⟩ := hhb
      obtain ⟨g1, g2, g3⟩ := hg.hs _ _ (Fm.at_of e)
      rw [Int.toNat_of_nonneg (Fm.is_iff.mp e).1] at g1
      refine ⟨_, _, _, rfl, hy.ob, hf_hold, _, rfl, _, rfl, _, ow, b, h, M.at h, v1, v2, t1, t2, rfl, ⟨y, hy⟩, hcl, g1, g2, d1, d2, ?_⟩
      unfold Res
      dsimp only at q
      cases r : (M.at h).hold h t1 t2 with
      | ok S => rw [r] at q; exact fun H' ow' f g => q H' ow' (frmW f) ⟨x, hw.hset' e f hb g⟩
      | error er => rw [r] at q; exact q
    · rw [if_neg (by rw [e]; decide)] at q
      exact q
theorem scWDrop : FnScope ["self", "h", "a", "b"] ["self", "h", "a", "b"] (defScope sW_drop) := ⟨rfl, rfl, rfl, by decide +kernel, rfl, by decide +kernel, by decide +kernel⟩
theorem ok_wdrop (T : Tx K mg) : Ok P w K mg base 4 dW_drop ["self", "h", "a", "b"] (spWDeed2 K Wd.drop) := by
  obtain ⟨f1, F1, b1, k1⟩ := ok_whouse (P := P) (w := w) (base := base) T
  obtain ⟨f2, F2, b2, k2⟩ := ok_drop (P := P) (w := w) (base := base) T
  refine Ok.mk T 44 rfl ⟨rfl, rfl⟩ scWDrop (fun vs H Q E h => ?_) (fun _ _ _ _ _ _ us hl => match us, hl with | [_, _, _, _], _ => rfl) (fun cdv A outer s H vs Q E hr h => ?_)
  · obtain ⟨wid, ow, a, M, h, v1, v2, t1, t2, rfl, _⟩ := h
    rfl
  · obtain ⟨wid, ow, a, M, h, v1, v2, t1, t2, rfl, ⟨x, hw⟩, hcl, hg, d1, d2, q⟩ := h
    refine ⟨_, pss_one (ps_expr (pe_meth (pe_meth (pv 0) T.c_World T.m_World_house F1 (hr.mono (by decide)) b1 .nil (passC (takes_of rfl rfl rfl rfl)) (pa_cons (pv 1) pa_nil)) T.c_House T.m_House_drop F2 hr b2 .nil (passC (takes_of rfl rfl rfl rfl)) (pa_cons (pv 2) (pa_cons (pv 3) pa_nil)))), ?_⟩
    unfold Wd.drop Wd.act at q
    refine ⟨_, rfl, _, _, _, rfl, hw.ob, wf_house, _, rfl, wid, ow, a, M, x, h, rfl, hw, hg.hn, fun e b hb hhb => ?_, fun e => ?_⟩
    · rw [if_pos e] at q
      obtain ⟨y, hy⟩ := hhb
      obtain ⟨g1, g2, g3⟩ := hg.hs _ _ (Fm.at_of e)
      rw [Int.toNat_of_nonneg (Fm.is_iff.mp e).1] at g1
      refine ⟨_, _, _, rfl, hy.ob, hf_drop, _, rfl, _, rfl, _, ow, b, h, M.at h, v1, v2, t1, t2, rfl, ⟨y, hy⟩, hcl, g1, g2, d1, d2, ?_⟩
      unfold Res
      dsimp only at q
      cases r : (M.at h).drop h t1 t2 with
      | ok S => rw [r] at q; exact fun H' ow' f g => q H' ow' (frmW f) ⟨x, hw.hset' e f hb g⟩
      | error er => rw [r] at q; exact q
    · rw [if_neg (by rw [e]; decide)] at q
      exact q
theorem scWTake : FnScope ["self", "h", "a", "b"] ["self", "h", "a", "b"] (defScope sW_take) := ⟨rfl, rfl, rfl, by decide +kernel, rfl, by decide +kernel, by decide +kernel⟩
theorem ok_wtake (T : Tx K mg) : Ok P w K mg base 4 dW_take ["self", "h", "a", "b"] (spWDeed2 K Wd.take) := by
  obtain ⟨f1, F1, b1, k1⟩ := ok_whouse (P := P) (w := w) (base := base) T
  obtain ⟨f2, F2, b2, k2⟩ := ok_take (P := P) (w := w) (base := base) T
  refine Ok.mk T 45 rfl ⟨rfl, rfl⟩ scWTake (fun vs H Q E h => ?_) (fun _ _ _ _ _ _ us hl => match us, hl with | [_, _, _, _], _ => rfl) (fun cdv A outer s H vs Q E hr h => ?_)
  · obtain ⟨wid, ow, a, M, h, v1, v2, t1, t2, rfl, _⟩ := h
    rfl
  · obtain ⟨wid, ow, a, M, h, v1, v2, t1, t2, rfl, ⟨x, hw⟩, hcl, hg, d1, d2, q⟩ := h
    refine ⟨_, pss_one (ps_expr (pe_meth (pe_meth (pv 0) T.c_World T.m_World_house F1 (hr.mono (by decide)) b1 .nil (passC (takes_of rfl rfl rfl rfl)) (pa_cons (pv 1) pa_nil)) T.c_House T.m_House_take F2 hr b2 .nil (passC (takes_of rfl rfl rfl rfl)) (pa_cons (pv 2) (pa_cons (pv 3) pa_nil)))), ?_⟩
    unfold Wd.take Wd.act at q
    refine ⟨_, rfl, _, _, _, rfl, hw.ob, wf_house, _, rfl, wid, ow, a, M, x, h, rfl, hw, hg.hn, fun e b hb hhb => ?_, fun e => ?_⟩
    · rw [if_pos e] at q
      obtain ⟨y, hy⟩ := hhb
      obtain ⟨g1, g2, g3⟩ := hg.hs _ _ (Fm.at_of e)
      rw [Int.toNat_of_nonneg (Fm.is_iff.mp e).1] at g1
      refine ⟨_, _, _, rfl, hy.ob, hf_take, _, rfl, _, rfl, _, ow, b, h, M.at h, v1, v2, t1, t2, rfl, ⟨y, hy⟩, hcl, g1, g2, d1, d2, ?_⟩
      unfold Res
      dsimp only at q
      cases r : (M.at h).take h t1 t2 with
      | ok S => rw [r] at q; exact fun H' ow' f g => q H' ow' (frmW f) ⟨x, hw.hset' e f hb g⟩
      | error er => rw [r] at q; exact q
    · rw [if_neg (by rw [e]; decide)] at q
      exact q
theorem scWFree : FnScope ["self", "h", "b"] ["self", "h", "b"] (defScope sW_free) := ⟨rfl, rfl, rfl, by decide +kernel, rfl, by decide +kernel, by decide +kernel⟩
theorem ok_wfree (T : Tx K mg) : Ok P w K mg base 3 dW_free ["self", "h", "b"] (spWDeed1 K Wd.free) := by
  obtain ⟨f1, F1, b1, k1⟩ := ok_whouse (P := P) (w := w) (base := base) T
  obtain ⟨f2, F2, b2, k2⟩ := ok_free (P := P) (w := w) (base := base) T
  refine Ok.mk T 46 rfl ⟨rfl, rfl⟩ scWFree (fun vs H Q E h => ?_) (fun _ _ _ _ _ _ us hl => match us, hl with | [_, _, _], _ => rfl) (fun cdv A outer s H vs Q E hr h => ?_)
  · obtain ⟨wid, ow, a, M, h, v1, t1, rfl, _⟩ := h
    rfl
  · obtain ⟨wid, ow, a, M, h, v1, t1, rfl, ⟨x, hw⟩, hcl, hg, d1, q⟩ := h
    refine ⟨_, pss_one (ps_expr (pe_meth (pe_meth (pv 0) T.c_World T.m_World_house F1 (hr.mono (by decide)) b1 .nil (passC (takes_of rfl rfl rfl rfl)) (pa_cons (pv 1) pa_nil)) T.c_House T.m_House_free F2 hr b2 .nil (passC (takes_of rfl rfl rfl rfl)) (pa_cons (pv 2) pa_nil))), ?_⟩
    unfold Wd.free Wd.act at q
    refine ⟨_, rfl, _, _, _, rfl, hw.ob, wf_house, _, rfl, wid, ow, a, M, x, h, rfl, hw, hg.hn, fun e b hb hhb => ?_, fun e => ?_⟩
    · rw [if_pos e] at q
      obtain ⟨y, hy⟩ := hhb
      obtain ⟨g1, g2, g3⟩ := hg.hs _ _ (Fm.at_of e)
      rw [Int.toNat_of_nonneg (Fm.is_iff.mp e).1] at g1
      refine ⟨_, _, _, rfl, hy.ob, hf_free, _, rfl, _, ow, b, h, M.at h, v1, t1, rfl, ⟨y, hy⟩, hcl, g1, g2, d1, ?_⟩
      unfold Res
      dsimp only at q ⊢
      cases r : (M.at h).free t1 with
      | ok S => rw [r] at q; exact fun H' ow' f g => q H' ow' (frmW f) ⟨x, hw.hset' e f hb g⟩
      | error er => rw [r] at q; exact q
    · rw [if_neg (by rw [e]; decide)] at q
      exact q
end
end Fh

set_option Elab.async false
set_option linter.all false
set_option maxRecDepth 100000
set_option maxHeartbeats 4000000
namespace Fm
theorem puts_snoc (M : Wd) (ls : List Lt) (l : Lt) : M.puts (ls ++ [l]) = (M.puts ls).put l := by
  unfold Wd.puts
  rw [List.foldl_append]
  rfl
theorem puts_last (M : Wd) : ∀ ls : List Lt, (M.puts ls).last = M.last + ls.length := by
  intro ls
  induction ls generalizing M with
  | nil => simp [Wd.puts]
  | cons l r ih =>
    have := ih (M.put l)
    show ((M.put l).puts r).last = _
    rw [this]
    show M.last + 1 + _ = _
    rw [List.length_cons]
    omega
theorem puts_hs (M : Wd) : ∀ ls : List Lt, (M.puts ls).hs = M.hs := by
  intro ls
  induction ls generalizing M with
  | nil => rfl
  | cons l r ih => exact ih (M.put l)
theorem puts_asked (M : Wd) : ∀ ls : List Lt, (M.puts ls).asked = M.asked := by
  intro ls
  induction ls generalizing M with
  | nil => rfl
  | cons l r ih => exact ih (M.put l)
theorem puts_share (M : Wd) : ∀ ls : List Lt, (M.puts ls).share = M.share := by
  intro ls
  induction ls generalizing M with
  | nil => rfl
  | cons l r ih => exact ih (M.put l)
theorem puts_lying (M : Wd) : ∀ ls : List Lt, (M.puts ls).lying.length ≤ M.lying.length + ls.length := by
  intro ls
  induction ls generalizing M with
  | nil => simp [Wd.puts]
  | cons l r ih =>
    have h1 := ih (M.put l)
    have h2 : (M.put l).lying.length ≤ M.lying.length + 1 := length_dput ..
    show ((M.put l).puts r).lying.length ≤ _
    rw [List.length_cons]
    omega
theorem nums_succ (a : Int) (j : Nat) : nums a (j + 1) = nums a j ++ [a + (j : Int) + 1] := by
  unfold nums
  rw [List.range_succ, List.map_append]
  simp
  omega
end Fm
namespace Fh
open PySem PySem.Spec L2 FhR
open Fm (Th Hs StD Wd Er HG HB HSm Sts SZ Inq Lt Ab WG)
theorem WIs.putW {K : PySem.W.Frag} {wid : Nat} {H H' : Hp} {ow ow' : Ow} {a : Addr} {M : Wd} {x : WAd} (h : WIs K wid H ow a M x) {l : Lt} (f : Frm (fun m => m = (wid, .po)) H ow H' ow') (g : PAt (pC K) (wid, .po) H' ow' x.po (M.last + 1) (Fm.dput M.lying (M.last + 1) l)) : WIs K wid H' ow' a (M.put l) x := h.pset f g
def spWInit (K : PySem.W.Frag) : Sp := fun vs H Q _ => ∃ (wid : Nat) (ow : Ow) (a dx : Addr) (n : Nat) (share : Int), vs = [.ref a, .int n, .int share] ∧ H a = some (.ins (wC K) dx []) ∧ ow a = some (wid, .ms) ∧ Clean H ow ∧ n ≤ 4 ∧ AftW K wid H ow a (Wd.new n share) (Q .non)
def spSend (K : PySem.W.Frag) : Sp := fun vs H Q E => ∃ (wid : Nat) (ow : Ow) (a : Addr) (M : Wd) (h g : Int) (v : V) (t : Th), vs = [.ref a, .int h, .int g, v] ∧ WAt K wid H ow a M ∧ Clean H ow ∧ WG M ∧ DV H v (dTh t) ∧
  match M.send h g t with
  | .ok M' => AftW K wid H ow a M' (Q (.int (M.last + 1)))
  | .error e => E (exn K e) none H
/-- letters are put in: a list of their numbers -/
def spPuts (K : PySem.W.Frag) (pre : Wd → List V → Hp → Ow → List Lt → Prop) : Sp := fun vs H Q _ => ∃ (wid : Nat) (ow : Ow) (a : Addr) (M : Wd) (more : List V) (ls : List Lt), vs = .ref a :: more ∧ WAt K wid H ow a M ∧ Clean H ow ∧ M.hs.length ≤ 4 ∧ M.lying.length + ls.length ≤ 60000 ∧ pre M more H ow ls ∧
  ∀ H' ow' r, Frm (fun l => l.1 = wid) H ow H' ow' → WAt K wid H' ow' a (M.puts ls) → ow' r = none → H' r = some (.lst ((Fm.nums M.last ls.length).map V.int)) → Q (.ref r) H'
def preBacks (_ : Wd) (more : List V) (H : Hp) (ow : Ow) (ls : List Lt) : Prop := ∃ (h : Int) (r : Addr) (ws : List V) (bs : List (Th × Int)), more = [.int h, .ref r] ∧ H r = some (.lst ws) ∧ ow r = none ∧ DVs H ws (bs.map dRec) ∧ ls = Fm.backLts h bs
def preAsks (M : Wd) (more : List V) (_ : Hp) (_ : Ow) (ls : List Lt) : Prop := ∃ (h q t : Int), more = [.int h, .int q, .int t] ∧ ls = Fm.askLts h M.hs.length q t
def spWClean (K : PySem.W.Frag) : Sp := fun vs H Q E => ∃ (wid : Nat) (ow : Ow) (a : Addr) (M : Wd) (h : Int), vs = [.ref a, .int h] ∧ WAt K wid H ow a M ∧ Clean H ow ∧ WG M ∧
  match M.clean h with
  | .ok (M', ns) => ∀ H' ow' r, Frm (fun l => l.1 = wid) H ow H' ow' → WAt K wid H' ow' a M' → ow' r = none → H' r = some (.lst (ns.map V.int)) → Q (.ref r) H'
  | .error e => E (exn K e) none H
def spAsk (K : PySem.W.Frag) : Sp := fun vs H Q E => ∃ (wid : Nat) (ow : Ow) (a : Addr) (M : Wd) (h : Int), vs = [.ref a, .int h] ∧ WAt K wid H ow a M ∧ Clean H ow ∧ WG M ∧
  match M.ask h with
  | .ok M' => AftW K wid H ow a M' (Q (.int ((M.asked.length : Int) + 1)))
  | .error e => E (exn K e) none H
section
variable {P : Program} {w : World} {K : PySem.W.Frag} {mg : Str → Option Value} {base : Heap}
theorem scSend : FnScope ["self", "h", "g", "b", "house", "last", "weight"] ["self", "h", "g", "b"] (defScope sW_send) := ⟨rfl, rfl, rfl, by decide +kernel, rfl, by decide +kernel, by decide +kernel⟩
theorem ok_send (T : Tx K mg) : Ok P w K mg base 3 dW_send ["self", "h", "g", "b"] (spSend K) := by
  obtain ⟨f1, F1, b1, k1⟩ := ok_whouse (P := P) (w := w) (base := base) T
  obtain ⟨f2, F2, b2, k2⟩ := ok_is_last (P := P) (w := w) (base := base) T
  obtain ⟨f3, F3, b3, k3⟩ := ok_part (P := P) (w := w) (base := base) T
  obtain ⟨f4, F4, b4, k4⟩ := ok_put (P := P) (w := w) (base := base) T
  refine Ok.mk T 47 rfl ⟨rfl, rfl⟩ scSend (fun vs H Q E h => ?_) (fun _ _ _ _ _ _ us hl => match us, hl with | [_, _, _, _], _ => rfl) (fun cdv A outer s H vs Q E hr h => ?_)
  · obtain ⟨wid, ow, a, M, h, g, v, t, rfl, _⟩ := h
    rfl
  · obtain ⟨wid, ow, a, M, h, g, v, t, rfl, ⟨x, hw⟩, hcl, hg, dv, q⟩ := h
    have hr1 := hr.mono (show 1 ≤ 2 by decide)
    refine ⟨_, pss_cons (ps_set (i := 4) scSend.nd rfl (.inl rfl) (pe_meth (pv 0) T.c_World T.m_World_house F1 hr1 b1 .nil (passC (takes_of rfl rfl rfl rfl)) (pa_cons (pv 1) pa_nil)))
      (pss_cons (ps_expr (pe_meth (pv 0) T.c_World T.m_World_house F1 hr1 b1 .nil (passC (takes_of rfl rfl rfl rfl)) (pa_cons (pv 2) pa_nil)))
      (pss_cons (ps_set (i := 5) scSend.nd rfl (.inl rfl) (pe_meth (pv 4) T.c_House T.m_House_is_last F2 hr1 b2 .nil passL (pa_cons (pv 3) pa_nil)))
      (pss_cons (ps_set (i := 6) scSend.nd rfl (.inl rfl) (pe_meth (pv 4) T.c_House T.m_House_part F3 hr b3 .nil (passC (takes_of rfl rfl rfl rfl)) (pa_cons (pv 3) (pa_cons (pe_fld (pv 0) rfl) pa_nil))))
      (pss_cons (ps_if (pt_val (pv 5)) (pss_one (ps_ret (pe_meth (pe_fld (pv 0) rfl) T.c_Post T.m_Post_put F4 hr1 b4 .nil passL (pa_cons pe_str (pa_cons (pv 1) (pa_cons (pe_ix ix_tup (pv 3) pe_int (fun _ _ => rfl)) (pa_cons (pe_tup (pa_cons (pv 3) (pa_cons (pv 2) pa_nil))) pa_nil))))))) pss_nil)
      (pss_one (ps_ret (pe_meth (pe_fld (pv 0) rfl) T.c_Post T.m_Post_put F4 hr1 b4 .nil passL (pa_cons pe_str (pa_cons (pv 1) (pa_cons (pv 2) (pa_cons (pe_tup (pa_cons (pv 3) (pa_cons (pv 6) pa_nil))) pa_nil))))))))))), ?_⟩
    unfold Wd.send at q
    refine ⟨_, rfl, _, _, _, rfl, hw.ob, wf_house, _, rfl, wid, ow, a, M, x, h, rfl, hw, hg.hn, fun e b hb hhb => ?_, fun e => ?_⟩
    · rw [if_pos e] at q
      refine ⟨_, rfl, _, _, _, rfl, hw.ob, wf_house, _, rfl, wid, ow, a, M, x, g, rfl, hw, hg.hn, fun e2 b2 _ _ => ?_, fun e2 => ?_⟩
      · rw [if_pos e2] at q
        obtain ⟨y, hy⟩ := hhb
        obtain ⟨g1, g2, g3⟩ := hg.hs _ _ (Fm.at_of e)
        rw [Int.toNat_of_nonneg (Fm.is_iff.mp e).1] at g1
        refine ⟨_, rfl, _, _, _, rfl, hy.ob, hf_is_last, _, rfl, _, ow, b, h, M.at h, v, t, rfl, ⟨y, hy⟩, dv, ?_⟩
        refine ⟨_, rfl, _, _, _, rfl, hy.ob, hf_part, _, rfl, _, rfl, _, _, _, _, _, rfl, hw.ob, T.c_World, T.n_World_share, wf_share, _, ow, b, h, M.at h, v, t, M.share, rfl, ⟨y, hy⟩, hcl, g1, g2, dv, ?_⟩
        cases r : (M.at h).part h t M.share with
        | error er =>
          rw [r] at q
          exact q
        | ok r' =>
          obtain ⟨S, wt⟩ := r'
          rw [r] at q
          intro H1 ow1 f1 ha1
          have w1 := hw.hset' e f1 hb ha1
          have dv1 := dv.mono f1.tup
          have cl1 := f1.cl hcl
          obtain ⟨c, rfl, hc⟩ := id dv1.th
          obtain ⟨pdx, py, pk, hp⟩ := id w1.post
          refine ⟨_, rfl, _, rfl, ?_⟩
          dsimp only at q
          cases el : (M.at h).isLast t with
          | true =>
            rw [el, if_pos rfl] at q
            refine iteT ⟨_, rfl, _, _, _, _, _, rfl, w1.ob, T.c_World, T.n_World_post, wf_post, _, _, _, rfl, hp.ob, pf_put, _, rfl, _, rfl, _, _, _, _, rfl, rfl, SqT.of hc, atI_nat (j := 0) rfl, _, rfl, _, rfl, (by show 2 ≤ sizeLine; decide), fun p np => ?_⟩
            have w2 := w1.same (same_new (o := .tup [.ref c, .int g]) np)
            have f2 : Frm (fun l => l.1 = wid) H ow _ ow1 := (frmW f1).new (o := .tup [.ref c, .int g]) np
            have hc2 := keepL hc np (o := .tup [.ref c, .int g])
            have e2 : upd H1 p (.tup [.ref c, .int g]) p = some (.tup [.ref c, .int g]) := upd_same
            refine ⟨(wid, .po), ow1, x.po, M.last, M.lying, ⟨h, t.1, .pass t g⟩, _, rfl, w2.post, f2.cl hcl, .tup e2 (.cons (.mkTh hc2) (.cons (.int g) .nil)), Nat.le_trans hg.ly (by omega), fun H' ow' f3 g3 => ?_⟩
            exact q H' ow' (f2.trans (frmW f3)) ⟨x, w2.putW f3 g3⟩
          | false =>
            rw [el, if_neg (by decide)] at q
            refine iteF ⟨_, rfl, _, _, _, _, _, rfl, w1.ob, T.c_World, T.n_World_post, wf_post, _, _, _, rfl, hp.ob, pf_put, _, rfl, _, rfl, _, rfl, _, rfl, (by show 2 ≤ sizeLine; decide), fun p np => ?_⟩
            have w2 := w1.same (same_new (o := .tup [.ref c, .int wt]) np)
            have f2 : Frm (fun l => l.1 = wid) H ow _ ow1 := (frmW f1).new (o := .tup [.ref c, .int wt]) np
            have hc2 := keepL hc np (o := .tup [.ref c, .int wt])
            have e2 : upd H1 p (.tup [.ref c, .int wt]) p = some (.tup [.ref c, .int wt]) := upd_same
            refine ⟨(wid, .po), ow1, x.po, M.last, M.lying, ⟨h, g, .hold t wt⟩, _, rfl, w2.post, f2.cl hcl, .tup e2 (.cons (.mkTh hc2) (.cons (.int wt) .nil)), Nat.le_trans hg.ly (by omega), fun H' ow' f3 g3 => ?_⟩
            exact q H' ow' (f2.trans (frmW f3)) ⟨x, w2.putW f3 g3⟩
      · rw [if_neg (by rw [e2]; decide)] at q
        exact q
    · rw [if_neg (by rw [e]; decide)] at q
      exact q
theorem scBacks : FnScope ["self", "h", "given", "thing", "weight"] ["self", "h", "given"] (defScope sW_backs) := ⟨rfl, rfl, rfl, by decide +kernel, rfl, by decide +kernel, by decide +kernel⟩
theorem ok_backs (T : Tx K mg) : Ok P w K mg base 2 dW_backs ["self", "h", "given"] (spPuts K preBacks) := by
  obtain ⟨f4, F4, b4, k4⟩ := ok_put (P := P) (w := w) (base := base) T
  refine Ok.mk T 48 rfl ⟨rfl, rfl⟩ scBacks (fun vs H Q E h => ?_) (fun _ _ _ _ _ _ us hl => match us, hl with | [_, _, _], _ => rfl) (fun cdv A outer s H vs Q E hr h => ?_)
  · obtain ⟨wid, ow, a, M, more, ls, rfl, _, _, _, _, ⟨h, r, ws, bs, rfl, _⟩, _⟩ := h
    rfl
  · obtain ⟨wid, ow, a, M, more, ls, rfl, ⟨x, hw⟩, hcl, hn, hz, ⟨h, r, ws, bs, rfl, er, wr, dws, rfl⟩, q⟩ := h
    refine ⟨_, pss_one (ps_ret (pe_lc (own := [("thing", 3), ("weight", 4)]) (g := gTup K 2 (gCons (gName 3) (gCons (gName 4) gNil))) (tt := tYes)
        (te := tMeth (pC K) "put" (spPut K) [] E0 (tFld K (tVar 0) "post") (tCons (tC (.str "back")) (tCons (tVar 1) (tCons (tOp (rIxT K) (tVar 3) (tC (.int 0))) (tCons (tTup (tCons (tVar 3) (tCons (tVar 4) tNil))) tNil)))))
        rfl scBacks.nd (pi_list (pv 2))
        (blkOk_by (own := [("thing", 3), ("weight", 4)]) (N := ["self", "h", "given", "thing", "weight"]) (sc := defScope sW_backs) (by decide +kernel))
        (fun _ _ _ _ _ => pg_tup rfl (pgs_cons (pg_name (i := 3) scBacks.nd rfl (.inl rfl)) (pgs_cons (pg_name (i := 4) scBacks.nd rfl (.inl rfl)) pgs_nil))) (fun _ _ _ _ _ => pts_nil)
        (fun _ _ _ _ _ => pe_meth (pe_fld (pv 0) rfl) T.c_Post T.m_Post_put F4 hr b4 .nil passL (pa_cons pe_str (pa_cons (pv 1) (pa_cons (pe_ix ix_tup (pv 3) pe_int (fun _ _ => rfl)) (pa_cons (pe_tup (pa_cons (pv 3) (pa_cons (pv 4) pa_nil))) pa_nil))))))), ?_⟩
    refine ⟨_, rfl, r, rfl, ⟨_, SqL.of er⟩, fun D nD => ?_⟩
    have hlen : ws.length = bs.length := by rw [dws.length]; exact List.length_map ..
    have f0 : Frm (fun l => l.1 = wid) H ow _ ow := (Frm.refl).new (o := .lst []) nD
    have oD : ow D = none := hcl _ nD
    have hls : (Fm.backLts h bs).length = bs.length := List.length_map ..
    refine lc_it (walk_list (a := r) (xs := ws)) (fun j H' => ∃ ow', Frm (fun l => l.1 = wid) H ow H' ow' ∧ WIs K wid H' ow' a (M.puts ((Fm.backLts h bs).take j)) x ∧ H' D = some (.lst ((Fm.nums M.last j).map V.int)) ∧ ow' D = none)
      ⟨ow, f0, hw.same (same_new nD), upd_same, oD⟩ (fun j H' _ z => by obtain ⟨ow', f, _⟩ := z; exact SqL.of (f.at er (.inl wr)).1) ?_ ?_
    · rintro j v H5 H4 hj ⟨ow4, f4, w4, e4, o4⟩ ⟨rfl, hv⟩
      obtain ⟨d, hd, hdv⟩ := (dws.mono f4.tup).get hv
      obtain ⟨e, he, rfl⟩ := map_at hd
      obtain ⟨b, c, rfl, hb, hc⟩ := dRecE hdv
      have hel : (Fm.backLts h bs)[j]? = some ⟨h, e.1.1, .back e.1 e.2⟩ := by unfold Fm.backLts; rw [List.getElem?_map, he]; rfl
      have et := take_succ_at hel
      have hlj : ((Fm.backLts h bs).take j).length = j := by rw [List.length_take, hls]; omega
      obtain ⟨pdx, py, pk, hp⟩ := id w4.post
      refine ⟨b, _, rfl, SqT.of hb, rfl, _, _, rfl, _, _, rfl, rfl, ?_⟩
      refine ⟨rfl, _, rfl, _, _, _, _, _, rfl, w4.ob, T.c_World, T.n_World_post, wf_post, _, _, _, rfl, hp.ob, pf_put, _, rfl, _, rfl, _, _, _, _, rfl, rfl, SqT.of hc, atI_nat (j := 0) rfl, _, rfl, _, rfl, (by show 2 ≤ sizeLine; decide), fun p np => ?_⟩
      have w5 := w4.same (same_new (o := .tup [.ref c, .int e.2]) np)
      have f5 := f4.new (o := .tup [.ref c, .int e.2]) np
      have hc5 := keepL hc np (o := .tup [.ref c, .int e.2])
      have e5 : upd H4 p (.tup [.ref c, .int e.2]) p = some (.tup [.ref c, .int e.2]) := upd_same
      have D5 := keepL e4 np (o := .tup [.ref c, .int e.2])
      have hly := Fm.puts_lying M ((Fm.backLts h bs).take j)
      refine ⟨(wid, .po), ow4, x.po, _, _, ⟨h, e.1.1, .back e.1 e.2⟩, _, rfl, w5.post, f5.cl hcl, .tup e5 (.cons (.mkTh hc5) (.cons (.int e.2) .nil)), by omega, fun H' ow' f6 g6 => ?_⟩
      obtain ⟨D6, o6⟩ := f6.at D5 (.inl o4)
      have w6 := w5.putW f6 g6
      have f7 := (f5.trans (frmW f6)).put (a := D) (o := .lst ((Fm.nums M.last (j + 1)).map V.int)) (.inl nD) (.inr (.inr True.intro))
      refine ⟨_, D6, ?_, ow', ?_⟩
      · rw [List.length_map]
        unfold Fm.nums
        rw [List.length_map, List.length_range, sizeLine_eq]
        omega
      · rw [Fm.puts_last, hlj]
        have ev : (Fm.nums M.last j).map V.int ++ [V.int (M.last + (j : Int) + 1)] = (Fm.nums M.last (j + 1)).map V.int := by rw [Fm.nums_succ, List.map_append]; rfl
        rw [ev]
        refine ⟨f7, ?_, upd_same, by rw [o6, o4]⟩
        rw [et, Fm.puts_snoc]
        exact w6.stay (fun b o l e1 e2 _ => ⟨by rw [upd_ne fun z => by rw [z, o6, o4] at e2; cases e2]; exact e1, rfl⟩) (ts_put D6 (by intro xs z; cases z))
    · rintro H4 ⟨ow4, f4, w4, e4, o4⟩
      rw [hlen, List.take_of_length_le (by rw [hls]; exact Nat.le_refl _)] at w4
      rw [hlen, ← hls] at e4
      exact q _ ow4 D f4 ⟨x, w4⟩ o4 e4
theorem scWClean : FnScope ["self", "h"] ["self", "h"] (defScope sW_clean) := ⟨rfl, rfl, rfl, by decide +kernel, rfl, by decide +kernel, by decide +kernel⟩
theorem ok_wclean (T : Tx K mg) : Ok P w K mg base 3 dW_clean ["self", "h"] (spWClean K) := by
  obtain ⟨f1, F1, b1, k1⟩ := ok_whouse (P := P) (w := w) (base := base) T
  obtain ⟨f2, F2, b2, k2⟩ := ok_clean (P := P) (w := w) (base := base) T
  obtain ⟨f3, F3, b3, k3⟩ := ok_backs (P := P) (w := w) (base := base) T
  refine Ok.mk T 49 rfl ⟨rfl, rfl⟩ scWClean (fun vs H Q E h => ?_) (fun _ _ _ _ _ _ us hl => match us, hl with | [_, _], _ => rfl) (fun cdv A outer s H vs Q E hr h => ?_)
  · obtain ⟨wid, ow, a, M, h, rfl, _⟩ := h
    rfl
  · obtain ⟨wid, ow, a, M, h, rfl, ⟨x, hw⟩, hcl, hg, q⟩ := h
    have hr1 := hr.mono (show 1 ≤ 2 by decide)
    refine ⟨_, pss_one (ps_ret (pe_meth (pv 0) T.c_World T.m_World_backs F3 hr b3 .nil passL (pa_cons (pv 1) (pa_cons (pe_meth0 (pe_meth (pv 0) T.c_World T.m_World_house F1 hr1 b1 .nil (passC (takes_of rfl rfl rfl rfl)) (pa_cons (pv 1) pa_nil)) T.c_House T.m_House_clean F2 hr b2 .nil passL) pa_nil)))), ?_⟩
    unfold Wd.clean at q
    refine ⟨_, rfl, _, _, _, rfl, hw.ob, wf_backs, _, rfl, _, rfl, _, _, _, rfl, hw.ob, wf_house, _, rfl, wid, ow, a, M, x, h, rfl, hw, hg.hn, fun e b hb hhb => ?_, fun e => ?_⟩
    · rw [if_pos e] at q
      obtain ⟨y, hy⟩ := hhb
      obtain ⟨g1, g2, g3⟩ := hg.hs _ _ (Fm.at_of e)
      rw [Int.toNat_of_nonneg (Fm.is_iff.mp e).1] at g1
      refine ⟨_, _, _, rfl, hy.ob, hf_clean, _, ow, b, h, M.at h, [], [], rfl, rfl, ⟨y, hy⟩, hcl, g2, g3, g1.rn, g1.nd, g1, fun H1 ow1 r ws f1 ha1 wr er dws => ?_⟩
      have w1 := hw.hset' e f1 hb ha1
      have hlb : ((M.at h).swept h).back.length ≤ 1000 := by
        have h1 := List.length_filterMap_le ((M.at h).swept h).backT (Fm.sortT (Fm.keys ((M.at h).swept h).recs))
        have h2 := Fm.length_sortT (Fm.keys ((M.at h).swept h).recs)
        have h3 : (Fm.keys ((M.at h).swept h).recs).length = (M.at h).recs.length := List.length_map ..
        have h4 := g2.hr
        rw [Fm.back_eq]
        omega
      have hls : (Fm.backLts h ((M.at h).swept h).back).length = ((M.at h).swept h).back.length := List.length_map ..
      refine ⟨wid, ow1, a, M.set h ((M.at h).swept h).givenBack, _, Fm.backLts h ((M.at h).swept h).back, rfl, ⟨x, w1⟩, f1.cl hcl, by rw [Fm.len_set]; exact hg.hn, ?_, ⟨h, r, ws, _, rfl, er, wr, dws, rfl⟩, fun H' ow' r' f2 w2 wr' er' => ?_⟩
      · have := hg.ly
        show M.lying.length + _ ≤ _
        omega
      · rw [hls] at er'
        exact q H' ow' r' ((frmW f1).trans f2) w2 wr' er'
    · rw [if_neg (by rw [e]; decide)] at q
      exact q
theorem scAsks : FnScope ["self", "h", "inquiry", "turn", "g"] ["self", "h", "inquiry", "turn"] (defScope sW_asks) := ⟨rfl, rfl, rfl, by decide +kernel, rfl, by decide +kernel, by decide +kernel⟩
theorem ok_asks (T : Tx K mg) : Ok P w K mg base 2 dW_asks ["self", "h", "inquiry", "turn"] (spPuts K preAsks) := by
  obtain ⟨f4, F4, b4, k4⟩ := ok_put (P := P) (w := w) (base := base) T
  refine Ok.mk T 50 rfl ⟨rfl, rfl⟩ scAsks (fun vs H Q E h => ?_) (fun _ _ _ _ _ _ us hl => match us, hl with | [_, _, _, _], _ => rfl) (fun cdv A outer s H vs Q E hr h => ?_)
  · obtain ⟨wid, ow, a, M, more, ls, rfl, _, _, _, _, ⟨h, qn, t, rfl, _⟩, _⟩ := h
    rfl
  · obtain ⟨wid, ow, a, M, more, ls, rfl, ⟨x, hw⟩, hcl, hn, hz, ⟨h, qn, t, rfl, rfl⟩, q⟩ := h
    refine ⟨_, pss_one (ps_ret (pe_lc (own := [("g", 4)]) (g := gName 4) (tt := tYes)
        (te := tMeth (pC K) "put" (spPut K) [] E0 (tFld K (tVar 0) "post") (tCons (tC (.str "ask")) (tCons (tVar 1) (tCons (tVar 4) (tCons (tTup (tCons (tVar 2) (tCons (tVar 3) tNil))) tNil)))))
        rfl scAsks.nd (pi_range1 rfl T.f_range (pa_cons (pe_callB call_len rfl T.f_len boot_len (pa_cons (pe_fld (pv 0) rfl) pa_nil)) pa_nil))
        (blkOk_by (own := [("g", 4)]) (N := ["self", "h", "inquiry", "turn", "g"]) (sc := defScope sW_asks) (by decide +kernel))
        (fun _ _ _ _ _ => pg_name (i := 4) scAsks.nd rfl (.inl rfl)) (fun _ _ _ _ _ => pts_nil)
        (fun _ _ _ _ _ => pe_meth (pe_fld (pv 0) rfl) T.c_Post T.m_Post_put F4 hr b4 .nil passL (pa_cons pe_str (pa_cons (pv 1) (pa_cons (pv 4) (pa_cons (pe_tup (pa_cons (pv 2) (pa_cons (pv 3) pa_nil))) pa_nil))))))), ?_⟩
    have hlen : (x.has.map V.ref).length = M.hs.length := by rw [List.length_map, hw.hln]
    have hls : (Fm.askLts h M.hs.length qn t).length = M.hs.length := by unfold Fm.askLts; rw [List.length_map, Fm.houses_len]
    refine ⟨_, rfl, _, _, _, _, _, rfl, hw.ob, T.c_World, T.n_World_houses, wf_houses, _, _, rfl, .inl ⟨_, SqL.of hw.hhs, rfl⟩, _, rfl, by rw [hlen]; omega, by rw [hlen]; omega, fun D nD => ?_⟩
    have f0 : Frm (fun l => l.1 = wid) H ow _ ow := (Frm.refl).new (o := .lst []) nD
    have oD : ow D = none := hcl _ nD
    refine lc_it walk_range (fun j H' => ∃ ow', Frm (fun l => l.1 = wid) H ow H' ow' ∧ WIs K wid H' ow' a (M.puts ((Fm.askLts h M.hs.length qn t).take j)) x ∧ H' D = some (.lst ((Fm.nums M.last j).map V.int)) ∧ ow' D = none)
      ⟨ow, f0, hw.same (same_new nD), upd_same, oD⟩ (fun _ _ _ _ => True.intro) ?_ ?_
    · rintro j v H5 H4 hj ⟨ow4, f4, w4, e4, o4⟩ ⟨rfl, ev⟩
      obtain rfl : v = .int (j : Int) := ev.trans (congrArg V.int (Int.zero_add _))
      rw [hlen] at hj
      have hj' : j < M.hs.length := by omega
      have hel : (Fm.askLts h M.hs.length qn t)[j]? = some ⟨h, j, .ask qn t⟩ := by unfold Fm.askLts; rw [List.getElem?_map, Fm.houses_at hj']; rfl
      have et := take_succ_at hel
      have hlj : ((Fm.askLts h M.hs.length qn t).take j).length = j := by rw [List.length_take, hls]; omega
      obtain ⟨pdx, py, pk, hp⟩ := id w4.post
      refine ⟨rfl, _, rfl, _, _, _, _, _, rfl, w4.ob, T.c_World, T.n_World_post, wf_post, _, _, _, rfl, hp.ob, pf_put, _, rfl, _, rfl, _, rfl, _, rfl, (by show 2 ≤ sizeLine; decide), fun p np => ?_⟩
      have w5 := w4.same (same_new (o := .tup [.int qn, .int t]) np)
      have f5 := f4.new (o := .tup [.int qn, .int t]) np
      have e5 : upd H4 p (.tup [.int qn, .int t]) p = some (.tup [.int qn, .int t]) := upd_same
      have D5 := keepL e4 np (o := .tup [.int qn, .int t])
      have hly := Fm.puts_lying M ((Fm.askLts h M.hs.length qn t).take j)
      refine ⟨(wid, .po), ow4, x.po, _, _, ⟨h, j, .ask qn t⟩, _, rfl, w5.post, f5.cl hcl, .tup e5 (.cons (.int _) (.cons (.int _) .nil)), by omega, fun H' ow' f6 g6 => ?_⟩
      obtain ⟨D6, o6⟩ := f6.at D5 (.inl o4)
      have w6 := w5.putW f6 g6
      have f7 := (f5.trans (frmW f6)).put (a := D) (o := .lst ((Fm.nums M.last (j + 1)).map V.int)) (.inl nD) (.inr (.inr True.intro))
      refine ⟨_, D6, ?_, ow', ?_⟩
      · rw [List.length_map]
        unfold Fm.nums
        rw [List.length_map, List.length_range, sizeLine_eq]
        omega
      · rw [Fm.puts_last, hlj]
        have ev : (Fm.nums M.last j).map V.int ++ [V.int (M.last + (j : Int) + 1)] = (Fm.nums M.last (j + 1)).map V.int := by rw [Fm.nums_succ, List.map_append]; rfl
        rw [ev]
        refine ⟨f7, ?_, upd_same, by rw [o6, o4]⟩
        rw [et, Fm.puts_snoc]
        exact w6.stay (fun b o l e1 e2 _ => ⟨by rw [upd_ne fun z => by rw [z, o6, o4] at e2; cases e2]; exact e1, rfl⟩) (ts_put D6 (by intro xs z; cases z))
    · rintro H4 ⟨ow4, f4, w4, e4, o4⟩
      rw [hlen, Int.toNat_natCast] at w4 e4
      rw [List.take_of_length_le (by rw [hls]; exact Nat.le_refl _)] at w4
      rw [← hls] at e4
      exact q _ ow4 D f4 ⟨x, w4⟩ o4 e4
theorem scAsk : FnScope ["self", "h"] ["self", "h"] (defScope sW_ask) := ⟨rfl, rfl, rfl, by decide +kernel, rfl, by decide +kernel, by decide +kernel⟩
theorem ok_ask (T : Tx K mg) : Ok P w K mg base 3 dW_ask ["self", "h"] (spAsk K) := by
  obtain ⟨f1, F1, b1, k1⟩ := ok_whouse (P := P) (w := w) (base := base) T
  obtain ⟨f2, F2, b2, k2⟩ := ok_Inquiry (P := P) (w := w) (base := base) T
  obtain ⟨f3, F3, b3, k3⟩ := ok_asks (P := P) (w := w) (base := base) T
  refine Ok.mk T 51 rfl ⟨rfl, rfl⟩ scAsk (fun vs H Q E h => ?_) (fun _ _ _ _ _ _ us hl => match us, hl with | [_, _], _ => rfl) (fun cdv A outer s H vs Q E hr h => ?_)
  · obtain ⟨wid, ow, a, M, h, rfl, _⟩ := h
    rfl
  · obtain ⟨wid, ow, a, M, h, rfl, ⟨x, hw⟩, hcl, hg, q⟩ := h
    have hr1 := hr.mono (show 1 ≤ 2 by decide)
    refine ⟨_, pss_cons (ps_expr (pe_meth (pv 0) T.c_World T.m_World_house F1 hr1 b1 .nil (passC (takes_of rfl rfl rfl rfl)) (pa_cons (pv 1) pa_nil)))
      (pss_cons (ps_expr (pe_bm PySem.F.plainAttrs_list PySem.F.slot_list_append PySem.F.type_list_append mt_append (pe_fld (pv 0) rfl) (pa_cons (pe_make T.k_Inquiry F2 hr rfl T.g_Inquiry b2 .nil passL (pa_cons (pe_callB call_len rfl T.f_len boot_len (pa_cons (pe_fld (pv 0) rfl) pa_nil)) pa_nil)) pa_nil)))
      (pss_cons (ps_expr (pe_meth (pv 0) T.c_World T.m_World_asks F3 hr b3 .nil passL (pa_cons (pv 1) (pa_cons (pe_callB call_len rfl T.f_len boot_len (pa_cons (pe_fld (pv 0) rfl) pa_nil)) (pa_cons pe_int pa_nil)))))
      (pss_one (ps_ret (pe_callB call_len rfl T.f_len boot_len (pa_cons (pe_fld (pv 0) rfl) pa_nil)))))), ?_⟩
    unfold Wd.ask at q
    refine ⟨_, rfl, _, _, _, rfl, hw.ob, wf_house, _, rfl, wid, ow, a, M, x, h, rfl, hw, hg.hn, fun e b hb hhb => ?_, fun e => ?_⟩
    · rw [if_pos e] at q
      have hlen : (x.has.map V.ref).length = M.hs.length := by rw [List.length_map, hw.hln]
      refine ⟨_, rfl, _, _, _, _, _, rfl, hw.ob, T.c_World, T.n_World_asked, wf_asked, .inl ⟨rfl, _, SqL.of hw.has_⟩, _, rfl, _, _, _, _, _, rfl, hw.ob, T.c_World, T.n_World_houses, wf_houses, _, _, rfl, .inl ⟨_, SqL.of hw.hhs, rfl⟩, fun p dx np nd ne => ?_⟩
      rw [hlen]
      have nd' : upd H dx (.own p) p = none := by rw [upd_ne ne.symm]; exact np
      have s1 := (same_new (o := .own p) nd).trans (same_new (o := .ins (qC K) dx []) nd')
      have f0 : Frm (fun l => l.1 = wid) H ow _ (setO ow p (wid, .iq M.asked.length)) := (((Frm.refl).new (o := .own p) nd).new (o := .ins (qC K) dx []) nd').label (l := (wid, .iq M.asked.length)) np ⟨_, upd_same⟩
      have w1 : WIs K wid (upd (upd H dx (.own p)) p (.ins (qC K) dx [])) (setO ow p (wid, .iq M.asked.length)) a M x := hw.stay (fun b o l e1 _ _ => ⟨s1 _ _ e1, setO_ne (ne_of_none e1 np)⟩) (Same.ts s1)
      refine ⟨(wid, .iq M.asked.length), setO ow p (wid, .iq M.asked.length), p, dx, M.hs.length, rfl, upd_same, setO_same, f0.cl hcl, fun H2 ow2 f2 q2 => ⟨rfl, ?_⟩⟩
      have w2 : WIs K wid H2 ow2 a M x := w1.stay2 (fun b o l e1 e2 e3 e4 => f2.at e1 (.inr ⟨l, e2, fun z => e4 (congrArg Prod.snd z)⟩)) f2.tup
      have f3 := f0.trans (frmW f2)
      refine ⟨_, _, _, rfl, rfl, w2.has_, by rw [List.length_map, w2.qln]; exact line_lt hg.as_, ?_⟩
      have w3 := w2.as' q2
      have f4 : Frm (fun l => l.1 = wid) H ow _ ow2 := f3.put (a := x.pas) (o := .lst ((x.qas ++ [p]).map V.ref)) (.inr ⟨_, hw.has_, (by intro xs z; cases z), _, hw.ls, rfl⟩) (.inr (.inr True.intro))
      have ea : x.qas.map V.ref ++ [V.ref p] = (x.qas ++ [p]).map V.ref := by rw [List.map_append]; rfl
      rw [ea]
      have hlen2 : (((x.qas ++ [p]).map V.ref).length : Int) = (M.asked.length : Int) + 1 := by rw [List.length_map, List.length_append, hw.qln]; rfl
      have hls : (Fm.askLts h M.hs.length ((M.asked.length : Int) + 1) 1).length = M.hs.length := by unfold Fm.askLts; rw [List.length_map, Fm.houses_len]
      refine ⟨_, rfl, _, _, _, rfl, w3.ob, wf_asks, _, rfl, _, rfl, _, _, _, _, _, rfl, w3.ob, T.c_World, T.n_World_asked, wf_asked, _, _, rfl, .inl ⟨_, SqL.of w3.has_, rfl⟩, ?_⟩
      rw [hlen2]
      refine ⟨wid, ow2, a, { M with asked := M.asked ++ [Inq.new] }, _, Fm.askLts h M.hs.length ((M.asked.length : Int) + 1) 1, rfl, ⟨_, w3⟩, f4.cl hcl, hg.hn, ?_, ⟨h, _, 1, rfl, rfl⟩, fun H' ow' r' f5 w5 _ _ => ?_⟩
      · have h1 := hg.ly
        have h2 := hg.hn
        show M.lying.length + _ ≤ _
        omega
      · obtain ⟨x5, w5'⟩ := id w5
        have hl5 : ((x5.qas.map V.ref).length : Int) = (M.asked.length : Int) + 1 := by
          rw [List.length_map, w5'.qln, Fm.puts_asked]
          show ((M.asked ++ [Inq.new]).length : Int) = _
          rw [List.length_append]
          rfl
        refine ⟨_, rfl, _, _, _, _, _, rfl, w5'.ob, T.c_World, T.n_World_asked, wf_asked, _, _, rfl, .inl ⟨_, SqL.of w5'.has_, rfl⟩, ?_⟩
        rw [hl5]
        exact q H' ow' (f4.trans f5) w5
    · rw [if_neg (by rw [e]; decide)] at q
      exact q
end
end Fh

set_option Elab.async false
set_option linter.all false
set_option maxRecDepth 100000
set_option maxHeartbeats 4000000
namespace Fh
open PySem PySem.Spec L2 FhR
open Fm (Th Hs StD Wd Er HG HB HSm Sts SZ Inq Lt Ab WG)
section
variable {P : Program} {w : World} {K : PySem.W.Frag} {mg : Str → Option Value} {base : Heap}
theorem scWInit : FnScope ["self", "many", "share", "number"] ["self", "many", "share"] (defScope sW_init) := ⟨rfl, rfl, rfl, by decide +kernel, rfl, by decide +kernel, by decide +kernel⟩
theorem ok_World (T : Tx K mg) : Ok P w K mg base 3 dW_init ["self", "many", "share"] (spWInit K) := by
  obtain ⟨f1, F1, b1, k1⟩ := ok_House (P := P) (w := w) (base := base) T
  obtain ⟨f2, F2, b2, k2⟩ := ok_Post (P := P) (w := w) (base := base) T
  refine Ok.mk T 37 rfl ⟨rfl, rfl⟩ scWInit (fun vs H Q E h => ?_) (fun _ _ _ _ _ _ us hl => match us, hl with | [_, _, _], _ => rfl) (fun cdv A outer s H vs Q E hr h => ?_)
  · obtain ⟨wid, ow, a, dx, n, share, rfl, _⟩ := h
    rfl
  · obtain ⟨wid, ow, a, dx, n, share, rfl, hh, hla, hcl, hn, q⟩ := h
    refine ⟨_, pss_cons (ps_fld (pv 0) (pv 2) rfl)
      (pss_cons (ps_fld (pv 0) (pe_lc (own := [("number", 3)]) (g := gName 3) (tt := tYes) (te := tMake (hC K) (spHouse K) [] E0 (tCons (tVar 3) tNil)) rfl scWInit.nd (pi_range1 rfl T.f_range (pa_cons (pv 1) pa_nil))
        (blkOk_by (own := [("number", 3)]) (N := ["self", "many", "share", "number"]) (sc := defScope sW_init) (by decide +kernel))
        (fun _ _ _ _ _ => pg_name (i := 3) scWInit.nd rfl (.inl rfl)) (fun _ _ _ _ _ => pts_nil)
        (fun _ _ _ _ _ => pe_make T.k_House F1 hr rfl T.g_House b1 .nil passL (pa_cons (pv 3) pa_nil))) rfl)
      (pss_cons (ps_fld (pv 0) (pe_make0 T.k_Post F2 hr rfl T.g_Post b2 .nil passL) rfl)
      (pss_cons (ps_fld (pv 0) (pe_lst pa_nil) rfl) (pss_cons (ps_fld (pv 0) pe_dnewK rfl) (pss_one (ps_fld (pv 0) pe_dnewK rfl)))))), ?_⟩
    have nt : ∀ xs, HO.ins (wC K) dx [] ≠ .tup xs := fun xs z => by cases z
    refine ⟨_, rfl, _, rfl, _, _, _, _, rfl, hh, T.c_World, T.n_World_share, (by show 0 < 1000; decide), ?_⟩
    have fA : Frm (fun l => l.1 = wid) H ow _ ow := (Frm.refl).lab (o' := .ins (wC K) dx (putF "share" (.int share) [])) hh nt hla rfl
    have eA1 : upd H a (.ins (wC K) dx (putF "share" (.int share) [])) a = some (.ins (wC K) dx (putF "share" (.int share) [])) := upd_same
    generalize hH1 : upd H a (.ins (wC K) dx (putF "share" (.int share) [])) = H1 at fA eA1
    refine ⟨_, rfl, n, rfl, by omega, by omega, fun D nD => ?_⟩
    have nD0 : H D = none := fA.none_back nD
    have naD : a ≠ D := ne_of_none eA1 nD
    refine lc_it walk_range (fun j H' => ∃ (ow' : Ow) (bs : List Addr), Frm (fun l => l.1 = wid) H ow H' ow' ∧ H' a = some (.ins (wC K) dx (putF "share" (.int share) [])) ∧ ow' a = some (wid, .ms) ∧ H' D = some (.lst (bs.map V.ref)) ∧ ow' D = none ∧ bs.length = j ∧
        ∀ (i : Nat) b, bs[i]? = some b → HAt (hC K) (wid, .hs i) H' ow' b i Hs.new)
      ⟨ow, [], fA.new nD, keepL eA1 nD, hla, upd_same, hcl _ nD0, rfl, fun i b e => by simp at e⟩ (fun _ _ _ _ => True.intro) ?_ ?_
    · rintro j v H5 H4 hj ⟨ow4, bs, f4, ea4, la4, eD4, oD4, hl4, hb4⟩ ⟨rfl, ev⟩
      obtain rfl : v = .int (j : Int) := ev.trans (congrArg V.int (Int.zero_add _))
      refine ⟨rfl, _, rfl, fun p dp np nd ne => ?_⟩
      have nd' : upd H4 dp (.own p) p = none := by rw [upd_ne ne.symm]; exact np
      have s5 := (same_new (o := .own p) nd).trans (same_new (o := .ins (hC K) dp []) nd')
      have f5 : Frm (fun l => l.1 = wid) H ow _ (setO ow4 p (wid, .hs j)) := ((f4.new (o := .own p) nd).new (o := .ins (hC K) dp []) nd').label (l := (wid, .hs j)) (f4.none_back np) ⟨_, upd_same⟩
      have k5 : ∀ c o, H4 c = some o → setO ow4 p (wid, .hs j) c = ow4 c := fun c o e => setO_ne (ne_of_none e np)
      refine ⟨(wid, .hs j), setO ow4 p (wid, .hs j), p, dp, (j : Int), rfl, upd_same, setO_same, f5.cl hcl, fun H6 ow6 f6 ha6 => ⟨rfl, ?_⟩⟩
      have f7 := f5.trans (frmW f6)
      have aT : H6 a = some (.ins (wC K) dx (putF "share" (.int share) [])) ∧ ow6 a = some (wid, .ms) := by
        obtain ⟨x1, x2⟩ := f6.at (s5 _ _ ea4) (.inr ⟨_, (k5 _ _ ea4).trans la4, by intro z; injection z with _ z; cases z⟩)
        exact ⟨x1, by rw [x2, k5 _ _ ea4]; exact la4⟩
      have aD : H6 D = some (.lst (bs.map V.ref)) ∧ ow6 D = none := by
        obtain ⟨x1, x2⟩ := f6.at (s5 _ _ eD4) (.inl ((k5 _ _ eD4).trans oD4))
        exact ⟨x1, by rw [x2, k5 _ _ eD4]; exact oD4⟩
      have nDl : ∀ c o l, H6 c = some o → ow6 c = some l → upd H6 D (.lst ((bs ++ [p]).map V.ref)) c = some o ∧ ow6 c = ow6 c := fun c o l e1 e2 => ⟨by rw [upd_ne fun z => by rw [z, aD.2] at e2; cases e2]; exact e1, rfl⟩
      refine ⟨_, aD.1, ?_, ow6, bs ++ [p], ?_, ?_, aT.2, ?_, aD.2, ?_, fun i b e => ?_⟩
      · rw [List.length_map, hl4, sizeLine_eq]
        omega
      · exact f7.put (.inl nD0) (.inr (.inr True.intro))
      · rw [upd_ne naD]; exact aT.1
      · rw [upd_same, List.map_append]
        rfl
      · rw [List.length_append, hl4]
        rfl
      · rw [show bs.map V.ref ++ [V.ref p] = (bs ++ [p]).map V.ref by rw [List.map_append]; rfl]
        by_cases hi : i < bs.length
        · rw [List.getElem?_append_left hi] at e
          refine ((hb4 i b e).stay fun c o e1 e2 => ?_).stay fun c o e1 e2 => nDl c o _ e1 e2
          obtain ⟨x1, x2⟩ := f6.at (s5 _ _ e1) (.inr ⟨_, (k5 _ _ e1).trans e2, by
            intro z
            injection z with _ z
            injection z with z
            omega⟩)
          exact ⟨x1, x2.trans (k5 _ _ e1)⟩
        · have hi2 : i = bs.length := by
            have := (List.getElem?_eq_some_iff.mp e).1
            rw [List.length_append, List.length_singleton] at this
            omega
          subst hi2
          rw [List.getElem?_append_right (Nat.le_refl _), Nat.sub_self] at e
          have eb : p = b := Option.some.inj e
          subst eb
          rw [hl4]
          exact ha6.stay fun c o e1 e2 => nDl c o _ e1 e2
    · rintro H4 ⟨ow4, bs, f4, ea4, la4, eD4, oD4, hl4, hb4⟩
      rw [Int.toNat_natCast] at hl4
      -- the list is the world's
      have f5 := f4.label (l := (wid, .ms)) nD0 ⟨_, eD4⟩
      have la5 : setO ow4 D (wid, .ms) a = some (wid, .ms) := by rw [setO_ne naD]; exact la4
      have hb5 : ∀ (i : Nat) b, bs[i]? = some b → HAt (hC K) (wid, .hs i) H4 (setO ow4 D (wid, .ms)) b i Hs.new := fun i b e => (hb4 i b e).stay fun c o e1 e2 => ⟨e1, setO_ne fun z => by rw [z, oD4] at e2; cases e2⟩
      have lD5 : setO ow4 D (wid, .ms) D = some (wid, .ms) := setO_same
      generalize setO ow4 D (wid, .ms) = ow5 at f5 la5 hb5 lD5
      refine ⟨_, rfl, _, _, _, _, rfl, ea4, T.c_World, T.n_World_houses, (by show 1 < 1000; decide), ?_⟩
      -- the post
      intro p dp np nd ne
      have nap : a ≠ p := ne_of_none upd_same np
      have nadp : a ≠ dp := ne_of_none upd_same nd
      have np4 : H4 p = none := by rw [upd_ne nap.symm] at np; exact np
      have nd4 : H4 dp = none := by rw [upd_ne nadp.symm] at nd; exact nd
      have f6 := f5.lab (o' := .ins (wC K) dx (putF "houses" (.ref D) (putF "share" (.int share) []))) hh nt hla rfl
      have nd' : upd (upd H4 a (.ins (wC K) dx (putF "houses" (.ref D) (putF "share" (.int share) [])))) dp (.own p) p = none := by rw [upd_ne ne.symm]; exact np
      have s7 := (same_new (o := .own p) nd).trans (same_new (o := .ins (pC K) dp []) nd')
      have f7 : Frm (fun l => l.1 = wid) H ow _ (setO ow5 p (wid, .po)) := ((f6.new (o := .own p) nd).new (o := .ins (pC K) dp []) nd').label (l := (wid, .po)) (f5.none_back np4) ⟨_, upd_same⟩
      have k7 : ∀ c o, H4 c = some o → setO ow5 p (wid, .po) c = ow5 c := fun c o e => setO_ne (ne_of_none e np4)
      refine ⟨(wid, .po), setO ow5 p (wid, .po), p, dp, rfl, upd_same, setO_same, f7.cl hcl, fun H8 ow8 f8 hp8 => ⟨rfl, ?_⟩⟩
      have f9 := f7.trans (frmW f8)
      have kk : ∀ c o q, H4 c = some o → ow5 c = some (wid, q) → c ≠ a → q ≠ .po → H8 c = some o ∧ ow8 c = some (wid, q) := fun c o q e1 e2 n1 n2 => by
        obtain ⟨x1, x2⟩ := f8.at (s7 _ _ (show upd H4 a _ c = some o by rw [upd_ne n1]; exact e1)) (.inr ⟨_, (k7 _ _ e1).trans e2, fun z => n2 (congrArg Prod.snd z)⟩)
        exact ⟨x1, by rw [x2, k7 _ _ e1]; exact e2⟩
      have hb8 : ∀ (i : Nat) b, bs[i]? = some b → HAt (hC K) (wid, .hs i) H8 ow8 b i Hs.new := fun i b e => (hb5 i b e).stay fun c o e1 e2 => by
        obtain ⟨x1, x2⟩ := kk c o _ e1 e2 (fun z => by rw [z, la5] at e2; injection e2 with e2; injection e2 with _ e2; cases e2) (by intro z; cases z)
        exact ⟨x1, x2.trans e2.symm⟩
      have hD8 := kk D _ _ eD4 lD5 naD.symm (by intro z; cases z)
      have ha8 : H8 a = some (.ins (wC K) dx (putF "houses" (.ref D) (putF "share" (.int share) []))) ∧ ow8 a = some (wid, .ms) := by
        obtain ⟨x1, x2⟩ := f8.at (s7 _ _ (show upd H4 a _ a = some _ from upd_same)) (.inr ⟨_, (k7 _ _ ea4).trans la5, by intro z; injection z with _ z; cases z⟩)
        exact ⟨x1, by rw [x2, k7 _ _ ea4]; exact la5⟩
      clear hb5 hb4 kk k7 s7 f8
      refine ⟨_, rfl, _, _, _, _, rfl, ha8.1, T.c_World, T.n_World_post, (by show 2 < 1000; decide), ?_⟩
      refine ⟨(by show 0 ≤ sizeLine; exact Nat.zero_le _), ?_⟩
      intro p1 n1
      have na1 : a ≠ p1 := ne_of_none upd_same n1
      refine ⟨_, rfl, _, _, _, _, rfl, by rw [upd_ne na1]; exact upd_same, T.c_World, T.n_World_asked, (by show 3 < 1000; decide), ?_⟩
      intro p2 n2
      have na2 : a ≠ p2 := ne_of_none upd_same n2
      refine ⟨_, rfl, _, _, _, _, rfl, by rw [upd_ne na2]; exact upd_same, T.c_World, T.n_World_answers, (by show 4 < 1000; decide), ?_⟩
      intro p3 n3
      have na3 : a ≠ p3 := ne_of_none upd_same n3
      refine ⟨_, rfl, _, _, _, _, rfl, by rw [upd_ne na3]; exact upd_same, T.c_World, T.n_World_done, (by show 5 < 1000; decide), ?_⟩
      rw [wf_init]
      have m1 : H8 p1 = none := by rw [upd_ne na1.symm] at n1; exact n1
      have n2' := n2
      rw [upd_ne na2.symm] at n2'
      have n12 : p2 ≠ p1 := fun z => by rw [z, upd_same] at n2'; cases n2'
      have m2 : H8 p2 = none := by rw [upd_ne n12, upd_ne na2.symm] at n2'; exact n2'
      have n3' := n3
      rw [upd_ne na3.symm] at n3'
      have n23 : p3 ≠ p2 := fun z => by rw [z, upd_same] at n3'; cases n3'
      rw [upd_ne n23, upd_ne na3.symm] at n3'
      have n13 : p3 ≠ p1 := fun z => by rw [z, upd_same] at n3'; cases n3'
      have m3 : H8 p3 = none := by rw [upd_ne n13, upd_ne na3.symm] at n3'; exact n3'
      have g1 := ((f9.lab (o' := .ins (wC K) dx (putF "post" (.ref p) (putF "houses" (.ref D) (putF "share" (.int share) [])))) hh nt hla rfl).new (o := .lst []) n1).label (l := (wid, .ms)) (f9.none_back m1) ⟨_, upd_same⟩
      have g2 := ((g1.lab (o' := .ins (wC K) dx (putF "asked" (.ref p1) (putF "post" (.ref p) (putF "houses" (.ref D) (putF "share" (.int share) []))))) hh nt hla rfl).new (o := .dK []) n2).label (l := (wid, .ms)) (f9.none_back m2) ⟨_, upd_same⟩
      have g3 := ((g2.lab (o' := .ins (wC K) dx (putF "answers" (.ref p2) (putF "asked" (.ref p1) (putF "post" (.ref p) (putF "houses" (.ref D) (putF "share" (.int share) [])))))) hh nt hla rfl).new (o := .dK []) n3).label (l := (wid, .ms)) (f9.none_back m3) ⟨_, upd_same⟩
      have g4 := g3.lab (o' := .ins (wC K) dx (wf share D p p1 p2 p3)) hh nt hla rfl
      have kk : ∀ c o, H8 c = some o → c ≠ a → ∀ {o1 o2 o3 o4 o5 o6 o7}, upd (upd (upd (upd (upd (upd (upd H8 a o1) p1 o2) a o3) p2 o4) a o5) p3 o6) a o7 c = some o ∧ setO (setO (setO ow8 p1 (wid, .ms)) p2 (wid, .ms)) p3 (wid, .ms) c = ow8 c := fun c o e n => by
        intro o1 o2 o3 o4 o5 o6 o7
        have c1 := ne_of_none e m1
        have c2 := ne_of_none e m2
        have c3 := ne_of_none e m3
        rw [upd_ne n, upd_ne c3, upd_ne n, upd_ne c2, upd_ne n, upd_ne c1, upd_ne n, setO_ne c3, setO_ne c2, setO_ne c1]
        exact ⟨e, rfl⟩
      have nla : ∀ c q, ow8 c = some (wid, q) → q ≠ .ms → c ≠ a := fun c q e n z => by
        rw [z, ha8.2] at e
        injection e with e
        injection e with _ e
        exact n e.symm
      refine q _ _ g4 ⟨⟨dx, D, p, p1, p2, p3, bs, [], [], []⟩, ⟨upd_same, ?_, ?_, fun j b S e1 e2 => ?_, ?_, ?_, rfl, fun j b q e1 _ => by simp at e1, ?_, .nil, ?_, .nil, ?_, ?_, ?_, ?_, ?_, n23.symm, ne_of_none hD8.1 m1⟩⟩
      · exact (kk D _ hD8.1 naD.symm).1
      · show bs.length = (List.replicate n Hs.new).length
        rw [hl4, List.length_replicate]
      · have eS : S = Hs.new := by
          have e2' : (List.replicate n Hs.new)[j]? = some S := e2
          exact List.eq_of_mem_replicate (List.mem_of_getElem? e2')
        rw [eS]
        exact (hb8 j b e1).stay fun c o h1 h2 => kk c o h1 (nla c _ h2 (by intro z; cases z))
      · exact hp8.stay (fun c o h1 h2 => kk c o h1 (nla c _ h2 (by intro z; cases z))) fun c xs e => (kk c _ e (ne_of e ha8.1 (by intro z; cases z))).1
      · show upd _ a _ p1 = some (.lst [])
        rw [upd_ne na1.symm, upd_ne n13.symm, upd_ne na1.symm, upd_ne n12.symm, upd_ne na1.symm]
        exact upd_same
      · show upd _ a _ p2 = some (.dK [])
        rw [upd_ne na2.symm, upd_ne n23.symm, upd_ne na2.symm]
        exact upd_same
      · show upd _ a _ p3 = some (.dK [])
        rw [upd_ne na3.symm]
        exact upd_same
      · rw [setO_ne na3, setO_ne na2, setO_ne na1]
        exact ha8.2
      · show setO _ _ _ D = _
        rw [(kk D _ hD8.1 naD.symm (o1 := .own 0) (o2 := .own 0) (o3 := .own 0) (o4 := .own 0) (o5 := .own 0) (o6 := .own 0) (o7 := .own 0)).2]
        exact hD8.2
      · show setO (setO (setO ow8 p1 (wid, .ms)) p2 (wid, .ms)) p3 (wid, .ms) p1 = _
        rw [setO_ne n13.symm, setO_ne n12.symm]
        exact setO_same
      · show setO (setO (setO ow8 p1 (wid, .ms)) p2 (wid, .ms)) p3 (wid, .ms) p2 = _
        rw [setO_ne n23.symm]
        exact setO_same
      · exact setO_same
end
end Fh

set_option Elab.async false
set_option linter.all false
set_option maxRecDepth 100000
set_option maxHeartbeats 4000000
namespace Fm
theorem inq_at {M : Wd} {q : Int} (h1 : 1 ≤ q) (h2 : q ≤ (M.asked.length : Int)) : M.asked[(q - 1).toNat]? = some (M.inqAt q) := by
  unfold Wd.inqAt
  rw [List.getD_eq_getElem?_getD, List.getElem?_eq_getElem (by omega)]
  rfl
/-- an answer that comes can be heard -/
structure HeardOk (M : Wd) (n s : Int) (q t : Int) : Prop where
  an : ∃ tk st, dget M.answers n = some (tk, st)
  q1 : 1 ≤ q
  q2 : q ≤ (M.asked.length : Int)
  fin : ∀ tk st, dget M.answers n = some (tk, st) → t ≠ 1 → (dput (M.inqAt q).again s tk).length = M.hs.length →
    (∀ h ∈ houses M.hs.length, h ∈ keys (M.inqAt q).ticks ∧ h ∈ keys (dput (M.inqAt q).again s tk) ∧ h ∈ keys (M.inqAt q).states) ∧ SZ (({ M.inqAt q with again := dput (M.inqAt q).again s tk } : Inq).told M.hs.length)
theorem letLts_len (h : Int) (n : Nat) (ts : List Th) : (letLts h n ts).length = n := by unfold letLts; rw [List.length_map, houses_len]
theorem askLts_len (h : Int) (n : Nat) (q t : Int) : (askLts h n q t).length = n := by unfold askLts; rw [List.length_map, houses_len]
end Fm
namespace Fh
open PySem PySem.Spec L2 FhR
open Fm (Th Hs StD Wd Er HG HB HSm Sts SZ Inq Lt Ab WG HeardOk)
def RetN (K : PySem.W.Frag) (wid : Nat) (H : Hp) (ow : Ow) (a : Addr) (M' : Wd) (ns : List Int) (Q : VK) : Prop :=
  ∀ H' ow' r, Frm (fun l => l.1 = wid) H ow H' ow' → WAt K wid H' ow' a M' → ow' r = none → H' r = some (.lst (ns.map V.int)) → Q (.ref r) H'
def spAnswered (K : PySem.W.Frag) : Sp := fun vs H Q _ => ∃ (wid : Nat) (ow : Ow) (a : Addr) (M : Wd) (s g q t : Int) (v : V), vs = [.ref a, .int s, .int g, v] ∧ WAt K wid H ow a M ∧ Clean H ow ∧ WG M ∧ M.is g = true ∧ DV H v (.tuple [.int q, .int t]) ∧
  RetN K wid H ow a (M.answered s g q t) (Fm.nums M.last 1) Q
def preLets (M : Wd) (more : List V) (H : Hp) (_ : Ow) (ls : List Lt) : Prop := ∃ (h : Int) (v : V) (ts : List Th), more = [.int h, v] ∧ DV H v (dThs ts) ∧ ts.length ≤ 100000 ∧ ls = Fm.letLts h M.hs.length ts
def spHeard (K : PySem.W.Frag) : Sp := fun vs H Q _ => ∃ (wid : Nat) (ow : Ow) (a : Addr) (M : Wd) (n s g q t : Int) (v : V), vs = [.ref a, .int n, .int s, .int g, v] ∧ WAt K wid H ow a M ∧ Clean H ow ∧ WG M ∧ HeardOk M n s q t ∧ DV H v (.tuple [.int q, .int t]) ∧
  RetN K wid H ow a (M.heard n s g q t).1 (Fm.nums M.last (M.heard n s g q t).2) Q
def spWPassed (K : PySem.W.Frag) : Sp := fun vs H Q _ => ∃ (wid : Nat) (ow : Ow) (a : Addr) (M : Wd) (s g : Int) (b : Th) (to : Int) (v : V), vs = [.ref a, .int s, .int g, v] ∧ WAt K wid H ow a M ∧ Clean H ow ∧ WG M ∧ M.is g = true ∧ b.2 ∈ Fm.keys (M.at g).outs ∧ DV H v (.tuple [dTh b, .int to]) ∧
  RetN K wid H ow a (M.passedOn s g b to).1 (Fm.nums M.last (M.passedOn s g b to).2) Q
section
variable {P : Program} {w : World} {K : PySem.W.Frag} {mg : Str → Option Value} {base : Heap}
theorem pairE {H : Hp} {v : V} {d : PyData} {i : Int} (h : DV H v (.tuple [d, .int i])) : ∃ b v0, v = .ref b ∧ H b = some (.tup [v0, .int i]) ∧ DV H v0 d := by
  obtain ⟨b, ws, rfl, hb, h⟩ := DV.tupE h
  obtain ⟨v0, ws, rfl, h0, h⟩ := h.consE
  obtain ⟨v1, ws, rfl, h1, h⟩ := h.consE
  cases h.nilE
  cases h1.intE
  exact ⟨b, v0, rfl, hb, h0⟩
theorem scAnswered : FnScope ["self", "sender", "goal", "about", "house", "number"] ["self", "sender", "goal", "about"] (defScope sW_answered) := ⟨rfl, rfl, rfl, by decide +kernel, rfl, by decide +kernel, by decide +kernel⟩
theorem ok_answered (T : Tx K mg) : Ok P w K mg base 2 dW_answered ["self", "sender", "goal", "about"] (spAnswered K) := by
  obtain ⟨f1, F1, b1, k1⟩ := ok_put (P := P) (w := w) (base := base) T
  obtain ⟨f2, F2, b2, k2⟩ := ok_tick (P := P) (w := w) (base := base) T
  obtain ⟨f3, F3, b3, k3⟩ := ok_state (P := P) (w := w) (base := base) T
  refine Ok.mk T 52 rfl ⟨rfl, rfl⟩ scAnswered (fun vs H Q E h => ?_) (fun _ _ _ _ _ _ us hl => match us, hl with | [_, _, _, _], _ => rfl) (fun cdv A outer s H vs Q E hr h => ?_)
  · obtain ⟨wid, ow, a, M, s, g, q, t, v, rfl, _⟩ := h
    rfl
  · obtain ⟨wid, ow, a, M, s, g, q, t, v, rfl, ⟨x, hw⟩, hcl, hg, e, dv, k⟩ := h
    have hu := hu_of hr
    refine ⟨_, pss_cons (ps_set (i := 4) scAnswered.nd rfl (.inl rfl) (pe_ix ix_list (pe_fld (pv 0) rfl) (pv 2) (fun _ _ => rfl)))
      (pss_cons (ps_set (i := 5) scAnswered.nd rfl (.inl rfl) (pe_meth (pe_fld (pv 0) rfl) T.c_Post T.m_Post_put F1 hr b1 .nil passL (pa_cons pe_str (pa_cons (pv 2) (pa_cons (pv 1) (pa_cons (pv 3) pa_nil))))))
      (pss_cons (ps_dput hu (pe_fld (pv 0) rfl) (pv 5) (pe_tup (pa_cons (pe_meth0 (pv 4) T.c_House T.m_House_tick F2 hr b2 .nil passL) (pa_cons (pe_meth0 (pv 4) T.c_House T.m_House_state F3 hr b3 .nil passL) pa_nil))) rfl)
      (pss_one (ps_ret (pe_lst (pa_cons (pv 5) pa_nil)))))), ?_⟩
    obtain ⟨b, hb, _⟩ := hw.house e
    obtain ⟨pdx, py, pk, hp⟩ := id hw.post
    refine ⟨_, rfl, _, _, _, _, _, rfl, hw.ob, T.c_World, T.n_World_houses, wf_houses, _, rfl, _, _, _, _, rfl, rfl, SqL.of hw.hhs, atI_map (Fm.is_iff.mp e).1 hb, ?_⟩
    refine ⟨_, rfl, _, _, _, _, _, rfl, hw.ob, T.c_World, T.n_World_post, wf_post, _, _, _, rfl, hp.ob, pf_put, _, rfl, _, rfl, _, rfl, (wid, .po), ow, x.po, M.last, M.lying, ⟨g, s, .ans q t⟩, v, rfl, hw.post, hcl, dv, Nat.le_trans hg.ly (by omega), fun H1 ow1 f1 g1 => ?_⟩
    have w1 := hw.putW f1 g1
    have f1' := frmW f1
    have cl1 := f1'.cl hcl
    obtain ⟨b', hb', ha1⟩ := w1.house (show (M.put ⟨g, s, .ans q t⟩).is g = true from e)
    have ebb : b' = b := Option.some.inj (hb'.symm.trans hb)
    subst ebb
    have ha1 : HAt (hC K) (wid, .hs g) H1 ow1 b' g (M.at g) := ha1
    obtain ⟨y, hy⟩ := id ha1
    obtain ⟨g1, g2, g3⟩ := hg.hs _ _ (Fm.at_of e)
    refine ⟨_, rfl, _, _, _, rfl, hy.ob, hf_tick, _, ow1, b', g, M.at g, rfl, ha1, _, rfl, _, _, _, rfl, hy.ob, hf_state, _, ow1, b', g, M.at g, rfl, ha1, g2, g1.ko, g1.nd, g1.rn, fun vst H2 sm2 dst => ?_⟩
    have w2 := w1.same sm2
    have f2 := f1'.trans (Frm.of_same (P := fun l => l.1 = wid) sm2 cl1)
    refine ⟨(by show 2 ≤ sizeLine; decide), fun p np => ?_⟩
    have w3 := w2.same (same_new (o := .tup [.int (M.at g).ticks, vst]) np)
    have f3 := f2.new (o := .tup [.int (M.at g).ticks, vst]) np
    have dst3 := dst.mono (Same.ts (same_new (o := .tup [.int (M.at g).ticks, vst]) np))
    have e3 : upd H2 p (.tup [.int (M.at g).ticks, vst]) p = some (.tup [.int (M.at g).ticks, vst]) := upd_same
    generalize upd H2 p (.tup [.int (M.at g).ticks, vst]) = H3 at w3 f3 dst3 e3
    refine ⟨_, rfl, _, _, _, _, _, rfl, w3.ob, T.c_World, T.n_World_answers, wf_answers, _, rfl, x.pan, _, rfl, DPut.k (k := Sum.inl (M.last + 1)) w3.han (by rw [w3.ran.length, sizeLine_eq]; have := hg.an; show M.answers.length < _; omega), ?_⟩
    have t4 := ts_put (o' := .dK (putK x.kan (Sum.inl (M.last + 1)) (.ref p))) w3.han (by intro xs z; cases z)
    have w4 := w3.an' (kan := putK x.kan (Sum.inl (M.last + 1)) (.ref p)) (d := Fm.dput M.answers (M.last + 1) ((M.at g).ticks, (M.at g).state g))
      ((w3.ran.mono fun _ _ g => g.mono t4).put inli (M.last + 1) (.tup (t4 _ _ e3) (.cons (.int _) (.cons (dst3.mono t4) .nil))))
    have f4 : Frm (fun l => l.1 = wid) H ow _ ow1 := f3.put (a := x.pan) (o := .dK (putK x.kan (Sum.inl (M.last + 1)) (.ref p))) (.inr ⟨_, hw.han, (by intro xs z; cases z), _, hw.ln, rfl⟩) (.inr (.inr True.intro))
    generalize upd H3 x.pan (.dK (putK x.kan (Sum.inl (M.last + 1)) (.ref p))) = H4 at w4 f4
    refine ⟨_, rfl, (by show 1 ≤ sizeLine; decide), fun r nr => ?_⟩
    refine k _ ow1 r (f4.new nr) ⟨_, w4.same (same_new nr)⟩ (f4.cl hcl _ nr) ?_
    rw [upd_same, Fm.nums_succ]
    show some (HO.lst [V.int (M.last + 1)]) = some (HO.lst [V.int (M.last + ((0 : Nat) : Int) + 1)])
    rw [show M.last + ((0 : Nat) : Int) + 1 = M.last + 1 by omega]
theorem scLets : FnScope ["self", "h", "things", "went", "g", "lying", "thing"] ["self", "h", "things"] (defScope sW_lets) := ⟨rfl, rfl, rfl, by decide +kernel, rfl, by decide +kernel, by decide +kernel⟩
theorem ok_lets (T : Tx K mg) : Ok P w K mg base 2 dW_lets ["self", "h", "things"] (spPuts K preLets) := by
  obtain ⟨f4, F4, b4, k4⟩ := ok_put (P := P) (w := w) (base := base) T
  refine Ok.mk T 54 rfl ⟨rfl, rfl⟩ scLets (fun vs H Q E h => ?_) (fun _ _ _ _ _ _ us hl => match us, hl with | [_, _, _], _ => rfl) (fun cdv A outer s H vs Q E hr h => ?_)
  · obtain ⟨wid, ow, a, M, more, ls, rfl, _, _, _, _, ⟨h, v, ts, rfl, _⟩, _⟩ := h
    rfl
  · obtain ⟨wid, ow, a, M, more, ls, rfl, ⟨x, hw⟩, hcl, hn, hz, ⟨h, v, ts, rfl, dv, hts, rfl⟩, q⟩ := h
    obtain ⟨pt, vs, rfl, ept, dvs⟩ := DV.tupE dv
    refine ⟨_, pss_cons (ps_set (i := 3) scLets.nd rfl (.inl rfl) (pe_lst pa_nil))
      (pss_cons (ps_for (passes_of rfl) rfl (pi_range1 rfl T.f_range (pa_cons (pe_callB call_len rfl T.f_len boot_len (pa_cons (pe_fld (pv 0) rfl) pa_nil)) pa_nil)) (pg_name (i := 4) scLets.nd rfl (.inr rfl))
        (pss_cons (ps_set (i := 5) scLets.nd rfl (.inl rfl) (pe_tupleOf rfl T.f_tuple (pe_lc (own := [("thing", 6)]) (g := gName 6) (tt := tTest (tOp rEq (tOp (rIxT K) (tVar 6) (tC (.int 0))) (tVar 4))) (te := tVar 6) rfl scLets.nd (pi_tup (pv 2))
            (blkOk_by (own := [("thing", 6)]) (N := ["self", "h", "things", "went", "g", "lying", "thing"]) (sc := defScope sW_lets) (by decide +kernel))
            (fun _ _ _ _ _ => pg_name (i := 6) scLets.nd rfl (.inl rfl)) (fun _ _ _ _ _ => pts_one (pt_cmpR op_eq (pe_ix ix_tup (pv 6) pe_int (fun _ _ => rfl)) (pv 4) (nomark _))) (fun _ _ _ _ _ => pv 6))))
        (pss_one (ps_expr (pe_bm PySem.F.plainAttrs_list PySem.F.slot_list_append PySem.F.type_list_append mt_append (pv 3) (pa_cons
          (pe_meth (pe_fld (pv 0) rfl) T.c_Post T.m_Post_put F4 hr b4 .nil passL (pa_cons pe_str (pa_cons (pv 1) (pa_cons (pv 4) (pa_cons (pv 5) pa_nil))))) pa_nil))))))
      (pss_one (ps_ret (pv 3)))), ?_⟩
    refine ⟨(by show 0 ≤ sizeLine; exact Nat.zero_le _), fun D nD => ?_⟩
    have hlen : (x.has.map V.ref).length = M.hs.length := by rw [List.length_map, hw.hln]
    have hls := Fm.letLts_len h M.hs.length ts
    have f0 : Frm (fun l => l.1 = wid) H ow _ ow := (Frm.refl).new (o := .lst []) nD
    have oD : ow D = none := hcl _ nD
    have w0 := hw.same (same_new (o := .lst []) nD)
    refine ⟨_, rfl, _, _, _, _, _, rfl, w0.ob, T.c_World, T.n_World_houses, wf_houses, _, _, rfl, .inl ⟨_, SqL.of w0.hhs, rfl⟩, _, rfl, by rw [hlen]; omega, by rw [hlen]; omega, ?_⟩
    refine for_it walk_range (fun j σ H' => ∃ (ow' : Ow) (v4 v5 v6 : Option V), σ = [some (.ref a), some (.int h), some (.ref pt), some (.ref D), v4, v5, v6] ∧ Frm (fun l => l.1 = wid) H ow H' ow' ∧ WIs K wid H' ow' a (M.puts ((Fm.letLts h M.hs.length ts).take j)) x ∧ H' D = some (.lst ((Fm.nums M.last j).map V.int)) ∧ ow' D = none)
      ⟨ow, _, _, _, rfl, f0, w0, upd_same, oD⟩ (fun _ _ _ _ _ => True.intro) ?_ ?_
    · rintro j v σ H5 H4 hj ⟨ow4, v4, v5, v6, rfl, f4, w4, e4, o4⟩ ⟨rfl, ev⟩
      obtain rfl : v = .int (j : Int) := ev.trans (congrArg V.int (Int.zero_add _))
      rw [hlen] at hj
      have hj' : j < M.hs.length := by omega
      have hel : (Fm.letLts h M.hs.length ts)[j]? = some ⟨h, j, .lets (ts.filter fun t => decide (t.1 = (j : Int)))⟩ := by unfold Fm.letLts; rw [List.getElem?_map, Fm.houses_at hj']; rfl
      have et := take_succ_at hel
      have hlj : ((Fm.letLts h M.hs.length ts).take j).length = j := by rw [List.length_take, hls]; omega
      have dvs4 := dvs.mono f4.tup
      refine ⟨_, rfl, pt, rfl, ⟨_, SqT.of (f4.tup _ _ ept)⟩, fun D2 nD2 => ?_⟩
      have hvl : vs.length = ts.length := by rw [dvs.length]; exact List.length_map ..
      refine lc_it (walk_tup (a := pt) (xs := vs)) (fun i H' => ∃ acc, H' = upd H4 D2 (.lst acc) ∧ DVs H4 acc (((ts.take i).filter fun t => decide (t.1 = (j : Int))).map dTh)) ⟨[], rfl, .nil⟩
        (fun i H' _ z => by obtain ⟨_, rfl, _⟩ := z; exact SqT.of (keepN (f4.tup _ _ ept) nD2)) ?_ ?_
      · rintro i v H7 H6 hi ⟨acc, rfl, hacc⟩ ⟨rfl, hv⟩
        obtain ⟨c, t, rfl, ht, hc⟩ := dvs_th dvs4 hv
        have hc' := keepN (o := .lst acc) hc nD2
        have eti := take_succ_at ht
        refine ⟨rfl, _, rfl, _, _, _, _, rfl, rfl, SqT.of hc', atI_nat (j := 0) rfl, _, rfl, rfl, _, rfl, ?_⟩
        rw [decV]
        by_cases c1 : t.1 = (j : Int)
        · rw [decide_eq_true c1]
          refine iteT ⟨_, rfl, acc, upd_same, ?_, acc ++ [.ref c], ?_, ?_⟩
          · rw [hacc.length, List.length_map, sizeLine_eq]
            have h1 := List.length_filter_le (fun t : Th => decide (t.1 = (j : Int))) (ts.take i)
            have h2 := List.length_take_le' i ts
            omega
          · rw [upd_upd]
          · rw [eti, List.filter_append, List.filter_cons, if_pos (decide_eq_true c1), List.map_append]
            exact hacc.snoc (.mkTh hc)
        · rw [decide_eq_false c1]
          refine iteF ⟨acc, rfl, ?_⟩
          rw [eti, List.filter_append, List.filter_cons, if_neg (by simp [c1])]
          simpa using hacc
      · rintro H6 ⟨acc, rfl, hacc⟩
        rw [hvl, List.take_length] at hacc
        refine .inl ⟨D2, acc, rfl, SqL.of upd_same, fun p np => ?_⟩
        have s5 := (same_new (o := .lst acc) nD2).trans (same_new (o := .tup acc) np)
        have w5 := w4.same s5
        have f5 := (f4.new (o := .lst acc) nD2).new (o := .tup acc) np
        have D5 := s5 _ _ e4
        have e5 : upd (upd H4 D2 (.lst acc)) p (.tup acc) p = some (.tup acc) := upd_same
        have dacc := hacc.mono (Same.ts s5)
        generalize upd (upd H4 D2 (.lst acc)) p (.tup acc) = H5 at s5 w5 f5 D5 e5 dacc
        obtain ⟨pdx, py, pk, hp⟩ := id w5.post
        have hly := Fm.puts_lying M ((Fm.letLts h M.hs.length ts).take j)
        refine ⟨_, rfl, .inl ⟨rfl, _, SqL.of D5⟩, _, rfl, _, _, _, _, _, rfl, w5.ob, T.c_World, T.n_World_post, wf_post, _, _, _, rfl, hp.ob, pf_put, _, rfl, _, rfl, _, rfl, (wid, .po), ow4, x.po, _, _, ⟨h, j, .lets (ts.filter fun t => decide (t.1 = (j : Int)))⟩, _, rfl, w5.post, f5.cl hcl, .tup e5 dacc, by omega, fun H' ow' f6 g6 => ?_⟩
        obtain ⟨D6, o6⟩ := f6.at D5 (.inl o4)
        have w6 := w5.putW f6 g6
        have f7 := (f5.trans (frmW f6)).put (a := D) (o := .lst ((Fm.nums M.last (j + 1)).map V.int)) (.inl nD) (.inr (.inr True.intro))
        refine ⟨D, _, _, rfl, rfl, D6, ?_, ow', _, _, _, rfl, ?_⟩
        · rw [List.length_map]
          unfold Fm.nums
          rw [List.length_map, List.length_range, sizeLine_eq]
          omega
        · rw [Fm.puts_last, hlj]
          have ev : (Fm.nums M.last j).map V.int ++ [V.int (M.last + (j : Int) + 1)] = (Fm.nums M.last (j + 1)).map V.int := by rw [Fm.nums_succ, List.map_append]; rfl
          rw [ev]
          refine ⟨f7, ?_, upd_same, by rw [o6, o4]⟩
          rw [et, Fm.puts_snoc]
          exact w6.stay (fun b o l e1 e2 _ => ⟨by rw [upd_ne fun z => by rw [z, o6, o4] at e2; cases e2]; exact e1, rfl⟩) (ts_put D6 (by intro xs z; cases z))
    · rintro σ H4 ⟨ow4, v4, v5, v6, rfl, f4, w4, e4, o4⟩
      rw [hlen, Int.toNat_natCast] at w4 e4
      rw [List.take_of_length_le (by rw [hls]; exact Nat.le_refl _)] at w4
      rw [← hls] at e4
      exact ⟨_, rfl, q _ ow4 D f4 ⟨x, w4⟩ o4 e4⟩
end
end Fh

set_option Elab.async false
set_option linter.all false
set_option maxRecDepth 100000
set_option maxHeartbeats 4000000
namespace Fm
theorem dget_ddrop_sub {β : Type} {d : List (Int × β)} {k : Int} : (ddrop d k).length ≤ d.length := List.length_filter_le ..
theorem WG.an_ {M : Wd} (h : WG M) {d : List (Int × (Int × StD))} (e : d.length ≤ M.answers.length) : WG { M with answers := d } := ⟨h.hs, h.hn, h.ly, h.as_, Nat.le_trans e h.an, h.dn, h.qs⟩
end Fm
namespace Fh
open PySem PySem.Spec L2 FhR
open Fm (Th Hs StD Wd Er HG HB HSm Sts SZ Inq Lt Ab WG HeardOk)
section
variable {P : Program} {w : World} {K : PySem.W.Frag} {mg : Str → Option Value} {base : Heap}
theorem scWPassed : FnScope ["self", "sender", "goal", "about", "thing", "went"] ["self", "sender", "goal", "about"] (defScope sW_passed) := ⟨rfl, rfl, rfl, by decide +kernel, rfl, by decide +kernel, by decide +kernel⟩
theorem ok_wpassed (T : Tx K mg) : Ok P w K mg base 2 dW_passed ["self", "sender", "goal", "about"] (spWPassed K) := by
  obtain ⟨f1, F1, b1, k1⟩ := ok_put (P := P) (w := w) (base := base) T
  obtain ⟨f2, F2, b2, k2⟩ := ok_hpassed (P := P) (w := w) (base := base) T
  refine Ok.mk T 55 rfl ⟨rfl, rfl⟩ scWPassed (fun vs H Q E h => ?_) (fun _ _ _ _ _ _ us hl => match us, hl with | [_, _, _, _], _ => rfl) (fun cdv A outer s H vs Q E hr h => ?_)
  · obtain ⟨wid, ow, a, M, s, g, b, to, v, rfl, _⟩ := h
    rfl
  · obtain ⟨wid, ow, a, M, s, g, b, to, v, rfl, ⟨x, hw⟩, hcl, hg, e, hbo, dv, k⟩ := h
    have hu := hu_of hr
    refine ⟨_, pss_cons (ps_set (i := 4) scWPassed.nd rfl (.inl rfl) (pe_ix ix_tup (pv 3) pe_int (fun _ _ => rfl)))
      (pss_cons (ps_expr (pe_meth (pe_ix ix_list (pe_fld (pv 0) rfl) (pv 2) (fun _ _ => rfl)) T.c_House T.m_House_passed F2 hr b2 .nil passL (pa_cons (pv 4) (pa_cons (pe_fld (pv 0) rfl) (pa_cons (pe_cmpR op_eq (pe_ix ix_tup (pv 3) pe_int (fun _ _ => rfl)) (pv 2) (nomark _)) pa_nil)))))
      (pss_cons (ps_set (i := 5) scWPassed.nd rfl (.inl rfl) (pe_lst pa_nil))
      (pss_cons (ps_if (pt_cmpR op_ne (pe_ix ix_tup (pv 3) pe_int (fun _ _ => rfl)) (pv 2) (nomark _))
        (pss_one (ps_expr (pe_bm PySem.F.plainAttrs_list PySem.F.slot_list_append PySem.F.type_list_append mt_append (pv 5) (pa_cons
          (pe_meth (pe_fld (pv 0) rfl) T.c_Post T.m_Post_put F1 hr b1 .nil passL (pa_cons pe_str (pa_cons (pv 2) (pa_cons (pe_ix ix_tup (pv 3) pe_int (fun _ _ => rfl)) (pa_cons (pe_tup (pa_cons (pv 4) (pa_cons (pe_fld (pv 0) rfl) pa_nil))) pa_nil))))) pa_nil)))) pss_nil)
      (pss_cons (ps_expr (pe_bm PySem.F.plainAttrs_list PySem.F.slot_list_append PySem.F.type_list_append mt_append (pv 5) (pa_cons
          (pe_meth (pe_fld (pv 0) rfl) T.c_Post T.m_Post_put F1 hr b1 .nil passL (pa_cons pe_str (pa_cons (pv 2) (pa_cons (pv 1) (pa_cons (pe_tup (pa_cons (pv 4) (pa_cons (pe_fld (pv 0) rfl) pa_nil))) pa_nil))))) pa_nil)))
      (pss_one (ps_ret (pv 5))))))), ?_⟩
    obtain ⟨pa, vb, rfl, epa, dvb⟩ := pairE dv
    obtain ⟨c, rfl, hc⟩ := id dvb.th
    obtain ⟨ba, hb, hhb⟩ := hw.house e
    obtain ⟨y, hy⟩ := id hhb
    obtain ⟨g1, g2, g3⟩ := hg.hs _ _ (Fm.at_of e)
    refine ⟨_, rfl, _, _, _, _, rfl, rfl, SqT.of epa, atI_nat (j := 0) rfl, ?_⟩
    refine ⟨_, rfl, _, _, _, _, _, rfl, hw.ob, T.c_World, T.n_World_houses, wf_houses, _, rfl, _, _, _, _, rfl, rfl, SqL.of hw.hhs, atI_map (Fm.is_iff.mp e).1 hb, _, _, _, rfl, hy.ob, hf_passed, _, rfl, _, rfl, _, _, _, _, _, rfl, hw.ob, T.c_World, T.n_World_share, wf_share,
      _, rfl, _, _, _, _, rfl, rfl, SqT.of epa, atI_nat (j := 1) rfl, _, rfl, rfl, ?_⟩
    rw [decV]
    refine ⟨(wid, .hs g), ow, ba, g, M.at g, .ref c, b, M.share, decide (to = g), rfl, hhb, hcl, g2, dvb, hbo, fun H1 ow1 f1 ha1 => ?_⟩
    have w1 := hw.hset' e f1 hb ha1
    have F1' : Frm (fun l => l.1 = wid) H ow H1 ow1 := frmW f1
    refine ⟨(by show 0 ≤ sizeLine; exact Nat.zero_le _), fun D nD => ?_⟩
    have nD0 : H D = none := F1'.none_back nD
    have oD : ow1 D = none := F1'.cl hcl _ nD
    have w2 := w1.same (same_new (o := .lst []) nD)
    have F2' := F1'.new (o := .lst []) nD
    have e2 : upd H1 D (.lst []) D = some (.lst []) := upd_same
    have epa2 : upd H1 D (.lst []) pa = some (.tup [.ref c, .int to]) := keepN (F1'.tup _ _ epa) nD
    have hc2 : upd H1 D (.lst []) c = some (.tup [.int b.1, .int b.2]) := keepN (F1'.tup _ _ hc) nD
    generalize upd H1 D (.lst []) = H2 at w2 F2' e2 epa2 hc2
    -- the last letter
    have last : ∀ {M' : Wd} {ns : List Int} {H3 : Hp} {ow3 : Ow} (σ5 : V), Frm (fun l => l.1 = wid) H ow H3 ow3 → WIs K wid H3 ow3 a M' x → H3 D = some (.lst (ns.map V.int)) → ow3 D = none → M'.share = M.share → M'.lying.length ≤ 60000 → ns.length ≤ 10 →
        (∀ H' ow', Frm (fun l => l.1 = wid) H ow H' ow' → WAt K wid H' ow' a (M'.put ⟨g, s, .more b M.share⟩) → ow' D = none → H' D = some (.lst ((ns ++ [M'.last + 1]).map V.int)) → Q (.ref D) H') →
        (tSeq (tDrop (tBM K "list" rAppend (tVar 5) (tCons (tMeth (pC K) "put" (spPut K) [] E0 (tFld K (tVar 0) "post") (tCons (tC (.str "more")) (tCons (tVar 2) (tCons (tVar 1) (tCons (tTup (tCons (tVar 4) (tCons (tFld K (tVar 0) "share") tNil))) tNil))))) tNil))) (tRet (tVar 5))) { nx := fun x H' => Q V.non H', rt := Q } [some (.ref a), some (.int s), some (.int g), some (.ref pa), some (.ref c), some (.ref D)] H3 := by
      intro M' ns H3 ow3 _ f3 w3 e3 o3 hsh hly hns kk
      obtain ⟨pdx, py, pk, hp⟩ := id w3.post
      have hc3 := f3.tup _ _ hc
      refine ⟨_, rfl, .inl ⟨rfl, _, SqL.of e3⟩, _, rfl, _, _, _, _, _, rfl, w3.ob, T.c_World, T.n_World_post, wf_post, _, _, _, rfl, hp.ob, pf_put, _, rfl, _, rfl, _, rfl, _, rfl, _, _, _, _, _, rfl, w3.ob, T.c_World, T.n_World_share, wf_share, (by show 2 ≤ sizeLine; decide), fun p np => ?_⟩
      rw [hsh]
      have w5 := w3.same (same_new (o := .tup [.ref c, .int M.share]) np)
      have f5 := f3.new (o := .tup [.ref c, .int M.share]) np
      have D5 := keepL e3 np (o := .tup [.ref c, .int M.share])
      have e5 : upd H3 p (.tup [.ref c, .int M.share]) p = some (.tup [.ref c, .int M.share]) := upd_same
      have hc5 := keepN (o := .tup [.ref c, .int M.share]) hc3 np
      refine ⟨(wid, .po), ow3, x.po, _, _, ⟨g, s, .more b M.share⟩, _, rfl, w5.post, f5.cl hcl, .tup e5 (.cons (.mkTh hc5) (.cons (.int _) .nil)), by omega, fun H' ow' f6 g6 => ?_⟩
      obtain ⟨D6, o6⟩ := f6.at D5 (.inl o3)
      have w6 := w5.putW f6 g6
      refine ⟨D, _, _, rfl, rfl, D6, ?_, _, rfl, ?_⟩
      · rw [List.length_map]
        exact line_lt (by omega)
      · have ev : ns.map V.int ++ [V.int (M'.last + 1)] = (ns ++ [M'.last + 1]).map V.int := by rw [List.map_append]; rfl
        rw [ev]
        refine kk _ ow' ((f5.trans (frmW f6)).put (a := D) (.inl nD0) (.inr (.inr True.intro))) ⟨x, ?_⟩ (by rw [o6, o3]) upd_same
        exact w6.stay (fun b o l e1 e2 _ => ⟨by rw [upd_ne fun z => by rw [z, o6, o3] at e2; cases e2]; exact e1, rfl⟩) (ts_put D6 (by intro xs z; cases z))
    have hly : M.lying.length ≤ 50000 := hg.ly
    refine ⟨_, rfl, _, _, _, _, rfl, rfl, SqT.of epa2, atI_nat (j := 1) rfl, _, rfl, rfl, _, rfl, ?_⟩
    rw [decV]
    unfold RetN at k
    unfold Wd.passedOn at k
    by_cases c1 : to = g
    · rw [decide_eq_true c1]
      rw [if_pos c1, decide_eq_true c1] at k
      rw [decide_eq_true c1] at w2
      refine iteF (last (ns := []) (.ref D) F2' w2 e2 oD rfl (Nat.le_trans hly (by omega)) (by simp) fun H' ow' f w' o e => ?_)
      refine k H' ow' D f w' o ?_
      rw [e]
      show _ = some (HO.lst ((Fm.nums M.last 1).map V.int))
      rw [Fm.nums_succ]
      show some (HO.lst [V.int (M.last + 1)]) = some (HO.lst [V.int (M.last + ((0 : Nat) : Int) + 1)])
      rw [show M.last + ((0 : Nat) : Int) + 1 = M.last + 1 by omega]
    · rw [decide_eq_false c1]
      rw [if_neg c1, decide_eq_false c1] at k
      rw [decide_eq_false c1] at w2
      obtain ⟨pdx, py, pk, hp⟩ := id w2.post
      refine iteT ⟨_, rfl, .inl ⟨rfl, _, SqL.of e2⟩, _, rfl, _, _, _, _, _, rfl, w2.ob, T.c_World, T.n_World_post, wf_post, _, _, _, rfl, hp.ob, pf_put, _, rfl, _, rfl, _, _, _, _, rfl, rfl, SqT.of epa2, atI_nat (j := 1) rfl, _, rfl, _, rfl, _, _, _, _, _, rfl, w2.ob, T.c_World, T.n_World_share, wf_share, (by show 2 ≤ sizeLine; decide), fun p np => ?_⟩
      have w5 := w2.same (same_new (o := .tup [.ref c, .int M.share]) np)
      have f5 := F2'.new (o := .tup [.ref c, .int M.share]) np
      have D5 := keepL e2 np (o := .tup [.ref c, .int M.share])
      have e5 : upd H2 p (.tup [.ref c, .int M.share]) p = some (.tup [.ref c, .int M.share]) := upd_same
      have hc5 := keepN (o := .tup [.ref c, .int M.share]) hc2 np
      refine ⟨(wid, .po), ow1, x.po, _, _, ⟨g, to, .hold b M.share⟩, _, rfl, w5.post, f5.cl hcl, .tup e5 (.cons (.mkTh hc5) (.cons (.int _) .nil)), Nat.le_trans hly (by omega), fun H' ow' f6 g6 => ?_⟩
      obtain ⟨D6, o6⟩ := f6.at D5 (.inl oD)
      have w6 := w5.putW f6 g6
      refine ⟨D, _, _, rfl, rfl, D6, (by show 0 < sizeLine; decide), ?_⟩
      have hlast : (M.set g ((M.at g).passed b M.share false)).last + 1 = M.last + 1 := rfl
      refine last (ns := [M.last + 1]) (.ref D) ((f5.trans (frmW f6)).put (a := D) (.inl nD0) (.inr (.inr True.intro))) (w6.stay (fun b o l e1 e2 _ => ⟨by rw [upd_ne fun z => by rw [z, o6, oD] at e2; cases e2]; exact e1, rfl⟩) (ts_put D6 (by intro xs z; cases z))) upd_same (by rw [o6, oD]) rfl ?_ (by simp) fun H' ow' f w' o e => ?_
      · have : (Fm.dput M.lying (M.last + 1) ⟨g, to, .hold b M.share⟩).length ≤ M.lying.length + 1 := Fm.length_dput ..
        exact Nat.le_trans this (by omega)
      · refine k H' ow' D f w' o ?_
        rw [e]
        show some (HO.lst [V.int (M.last + 1), V.int (M.last + 1 + 1)]) = some (HO.lst [V.int (M.last + 1 + ((0 : Nat) : Int)), V.int (M.last + 1 + ((1 : Nat) : Int))])
        rw [show M.last + 1 + ((0 : Nat) : Int) = M.last + 1 by omega, show M.last + 1 + ((1 : Nat) : Int) = M.last + 1 + 1 by omega]
end
end Fh

set_option Elab.async false
set_option linter.all false
set_option maxRecDepth 100000
set_option maxHeartbeats 4000000
namespace Fm
theorem unreached_len {s : Sts} (h : SZ s) : (unreached s).length ≤ 10000 := by
  unfold unreached
  rw [length_sortT]
  have h1 := List.length_filter_le (fun t => decide (t ∉ reachedFrom (rootsOf s) (holdsOf s))) (keys (holdsOf s))
  have h2 := holdsOf_len h
  have h3 : (keys (holdsOf s)).length = (holdsOf s).length := List.length_map ..
  omega
/-- a letter that comes can be taken -/
def ArrOk (M : Wd) (n : Int) (l : Lt) : Prop := M.is l.goal = true ∧ match l.ab with
  | .ans q t => HeardOk M n l.sender q t
  | .pass b _ => b.2 ∈ keys (M.at l.goal).outs
  | _ => True
end Fm
namespace Fh
open PySem PySem.Spec L2 FhR
open Fm (Th Hs StD Wd Er HG HB HSm Sts SZ Inq Lt Ab WG HeardOk ArrOk)
def spDeliver (K : PySem.W.Frag) : Sp := fun vs H Q E => ∃ (wid : Nat) (ow : Ow) (a : Addr) (M : Wd) (n : Int), vs = [.ref a, .int n] ∧ WAt K wid H ow a M ∧ Clean H ow ∧ WG M ∧ (∀ l, Fm.dget M.lying n = some l → ArrOk M n l) ∧
  match M.come n with
  | .ok (M', ns) => RetN K wid H ow a M' ns Q
  | .error e => E (exn K e) none H
section
variable {P : Program} {w : World} {K : PySem.W.Frag} {mg : Str → Option Value} {base : Heap}
theorem iff_true {A B : Prop} (h : A) : if true = true then A else B := by rw [if_pos rfl]; exact h
theorem scHeard : FnScope ["self", "n", "sender", "goal", "about", "tick", "state", "inquiry"] ["self", "n", "sender", "goal", "about"] (defScope sW_heard) := ⟨rfl, rfl, rfl, by decide +kernel, rfl, by decide +kernel, by decide +kernel⟩
theorem ok_heard (T : Tx K mg) : Ok P w K mg base 5 dW_heard ["self", "n", "sender", "goal", "about"] (spHeard K) := by
  obtain ⟨f1, F1, b1, k1⟩ := ok_first (P := P) (w := w) (base := base) T
  obtain ⟨f2, F2, b2, k2⟩ := ok_asks (P := P) (w := w) (base := base) T
  obtain ⟨f3, F3, b3, k3⟩ := ok_second (P := P) (w := w) (base := base) T
  obtain ⟨f4, F4, b4, k4⟩ := ok_result (P := P) (w := w) (base := base) T
  obtain ⟨f5, F5, b5, k5⟩ := ok_lets (P := P) (w := w) (base := base) T
  refine Ok.mk T 53 rfl ⟨rfl, rfl⟩ scHeard (fun vs H Q E h => ?_) (fun _ _ _ _ _ _ us hl => match us, hl with | [_, _, _, _, _], _ => rfl) (fun cdv A outer s H vs Q E hr h => ?_)
  · obtain ⟨wid, ow, a, M, n, s, g, q, t, v, rfl, _⟩ := h
    rfl
  · obtain ⟨wid, ow, a, M, n, s, g, q, t, v, rfl, ⟨x, hw⟩, hcl, hg, ho, dv, k⟩ := h
    have hu := hu_of hr
    have hr1 := hr.mono (show 1 ≤ 4 by decide)
    have hr2 := hr.mono (show 2 ≤ 4 by decide)
    refine ⟨_, pss_cons (ps_asg (pe_dpop1 (pe_fld (pv 0) rfl) (pv 1) ⟨rfl, rfl, rfl, rfl⟩) (pg_tup rfl (pgs_cons (pg_name (i := 5) scHeard.nd rfl (.inl rfl)) (pgs_cons (pg_name (i := 6) scHeard.nd rfl (.inl rfl)) pgs_nil))))
      (pss_cons (ps_set (i := 7) scHeard.nd rfl (.inl rfl) (pe_ix ix_list (pe_fld (pv 0) rfl) (pe_op op_sub (pe_ix ix_tup (pv 4) pe_int (fun _ _ => rfl)) pe_int) (fun _ _ => rfl)))
      (pss_cons (ps_if (pt_cmpR op_eq (pe_ix ix_tup (pv 4) pe_int (fun _ _ => rfl)) pe_int (nomark _))
        (pss_cons (ps_if (pt_val (pe_meth (pv 7) T.c_Inquiry T.m_Inquiry_first F1 hr1 b1 .nil passL (pa_cons (pv 2) (pa_cons (pv 5) (pa_cons (pv 6) pa_nil)))))
          (pss_one (ps_ret (pe_meth (pv 0) T.c_World T.m_World_asks F2 hr2 b2 .nil passL (pa_cons (pv 3) (pa_cons (pe_ix ix_tup (pv 4) pe_int (fun _ _ => rfl)) (pa_cons pe_int pa_nil)))))) pss_nil)
        (pss_one (ps_ret (pe_lst pa_nil)))) pss_nil)
      (pss_cons (ps_if (pt_val (pe_meth (pv 7) T.c_Inquiry T.m_Inquiry_second F3 hr1 b3 .nil passL (pa_cons (pv 2) (pa_cons (pv 5) pa_nil))))
        (pss_cons (ps_dput hu (pe_fld (pv 0) rfl) (pe_ix ix_tup (pv 4) pe_int (fun _ _ => rfl)) (pe_meth0 (pv 7) T.c_Inquiry T.m_Inquiry_result F4 hr b4 .nil passL) rfl)
        (pss_one (ps_ret (pe_meth (pv 0) T.c_World T.m_World_lets F5 hr2 b5 .nil passL (pa_cons (pv 3) (pa_cons (pe_dget hu (pe_fld (pv 0) rfl) (pe_ix ix_tup (pv 4) pe_int (fun _ _ => rfl)) (fun _ _ => rfl)) pa_nil)))))) pss_nil)
      (pss_one (ps_ret (pe_lst pa_nil)))))), ?_⟩
    obtain ⟨⟨tk, st, han⟩, hq1, hq2, hfin⟩ := ho
    replace hfin := hfin tk st han
    obtain ⟨pa, vq, rfl, epa, dq⟩ := pairE dv
    cases dq.intE
    -- the answer
    obtain ⟨va, eva, dva⟩ := hw.ran.at_ inli han
    obtain ⟨pan, ws, rfl, epan, dws⟩ := DV.tupE dva
    obtain ⟨v0, ws, rfl, h0, dws⟩ := dws.consE
    obtain ⟨vst, ws, rfl, dst, dws⟩ := dws.consE
    cases dws.nilE
    cases h0.intE
    refine ⟨_, rfl, _, _, _, _, _, rfl, hw.ob, T.c_World, T.n_World_answers, wf_answers, _, rfl, .inl ⟨_, .inl hw.han⟩, _, rfl, _, Sum.inl n, _, hw.han, rfl, eva, ?_⟩
    have t1 := ts_put (o' := .dK (dropK x.kan (Sum.inl n))) hw.han (by intro xs z; cases z)
    have w1 := hw.an' (kan := dropK x.kan (Sum.inl n)) (d := Fm.ddrop M.answers n) ((hw.ran.mono fun _ _ g => g.mono t1).drop inli n)
    have F1' : Frm (fun l => l.1 = wid) H ow _ ow := (Frm.refl).put (a := x.pan) (o := .dK (dropK x.kan (Sum.inl n))) (.inr ⟨_, hw.han, (by intro xs z; cases z), _, hw.ln, rfl⟩) (.inr (.inr True.intro))
    have epan1 := t1 _ _ epan
    have epa1 := t1 _ _ epa
    have dst1 := dst.mono t1
    generalize upd H x.pan (.dK (dropK x.kan (Sum.inl n))) = H1 at w1 F1' epan1 epa1 dst1
    clear t1
    refine ⟨pan, _, rfl, SqT.of epan1, rfl, _, _, rfl, _, _, rfl, rfl, ?_⟩
    -- the inquiry
    have hqa := Fm.inq_at hq1 hq2
    have hql : (q - 1).toNat < x.qas.length := by rw [hw.qln]; omega
    obtain ⟨iq, hiq⟩ : ∃ iq, x.qas[(q - 1).toNat]? = some iq := ⟨_, List.getElem?_eq_getElem hql⟩
    refine ⟨_, rfl, _, _, _, _, _, rfl, w1.ob, T.c_World, T.n_World_asked, wf_asked, _, rfl, _, _, _, _, rfl, rfl, SqT.of epa1, atI_nat (j := 0) rfl, _, _, rfl, rfl, _, _, _, _, rfl, rfl, SqL.of w1.has_, atI_map (show (0 : Int) ≤ q - 1 by omega) hiq, ?_⟩
    have hqt : QAt (qC K) (wid, .iq (q - 1).toNat) H1 ow iq M.hs.length (M.inqAt q) := w1.qat _ _ _ hiq hqa
    obtain ⟨qdx, qt, qs, qg, qk, hqi⟩ := id hqt
    obtain ⟨z1, z2, z3⟩ := hg.qs _ (List.mem_of_getElem? hqa)
    have cl1 := F1'.cl hcl
    refine ⟨_, rfl, _, _, _, _, rfl, rfl, SqT.of epa1, atI_nat (j := 1) rfl, rfl, _, rfl, ?_⟩
    rw [decV]
    unfold Wd.heard at k
    rw [han] at k
    dsimp only at k
    have ret : ∀ {M' : Wd} {H2 : Hp} {ow2 : Ow} {x' : WAd}, Frm (fun l => l.1 = wid) H ow H2 ow2 → WIs K wid H2 ow2 a M' x' → RetN K wid H ow a M' (Fm.nums M.last 0) Q → tLst tNil [] H2 Q := by
      intro M' H2 ow2 x' f2 w2 kk
      refine ⟨(by show 0 ≤ sizeLine; exact Nat.zero_le _), fun r nr => ?_⟩
      exact kk _ ow2 r (f2.new nr) ⟨_, w2.same (same_new nr)⟩ (f2.cl hcl _ nr) upd_same
    by_cases ct : t = 1
    · rw [decide_eq_true ct]
      rw [if_pos ct] at k
      refine iteT ⟨_, rfl, _, _, _, rfl, hqi.ob, qf_first, _, rfl, _, rfl, _, rfl, _, ow, iq, M.hs.length, M.inqAt q, s, tk, vst, st, rfl, hqt, cl1, dst1, z1, z2, fun H2 ow2 f2 q2 => ?_⟩
      have w2 := w1.qset f2 hiq q2
      have F2' := F1'.trans (frmW f2)
      refine ⟨_, rfl, ?_⟩
      by_cases cl : (Fm.dput (M.inqAt q).ticks s tk).length = M.hs.length
      · rw [decide_eq_true cl]
        rw [if_pos cl] at k
        have hl := Fm.askLts_len g M.hs.length q 2
        refine iteT ⟨_, rfl, _, _, _, rfl, w2.ob, wf_asks, _, rfl, _, rfl, _, _, _, _, rfl, rfl, SqT.of (F2'.tup _ _ epa), atI_nat (j := 0) rfl, wid, ow2, a, _, _, Fm.askLts g M.hs.length q 2, rfl, ⟨_, w2⟩, F2'.cl hcl, hg.hn, ?_, ⟨g, q, 2, rfl, rfl⟩, fun H' ow' r f3 w3 o3 e3 => ?_⟩
        · have h1 := hg.ly
          have h2 := hg.hn
          show M.lying.length + _ ≤ _
          omega
        · refine k H' ow' r (F2'.trans f3) w3 o3 ?_
          rw [e3, hl]
      · rw [decide_eq_false cl]
        rw [if_neg cl] at k
        exact iteF (ret F2' w2 k)
    · rw [decide_eq_false ct]
      rw [if_neg ct] at k
      refine iteF ⟨_, rfl, _, _, _, rfl, hqi.ob, qf_second, _, rfl, _, rfl, _, ow, iq, M.hs.length, M.inqAt q, s, tk, rfl, hqt, cl1, z3, fun H2 ow2 f2 q2 => ?_⟩
      have w2 := w1.qset f2 hiq q2
      have F2' := F1'.trans (frmW f2)
      refine ⟨_, rfl, ?_⟩
      by_cases cl : (Fm.dput (M.inqAt q).again s tk).length = M.hs.length
      · rw [decide_eq_true cl]
        rw [if_pos cl] at k
        obtain ⟨hkeys, hsz⟩ := hfin ct cl
        obtain ⟨qdx2, qt2, qs2, qg2, qk2, hqi2⟩ := id q2
        refine iteT ⟨_, rfl, _, _, _, rfl, hqi2.ob, qf_result, _, ow2, iq, M.hs.length, _, rfl, q2, Nat.le_trans hg.hn (by omega), fun h hm => ⟨(hkeys h hm).1, (hkeys h hm).2.1, (hkeys h hm).2.2⟩, hsz, fun H3 vr sm3 dr => ?_⟩
        have w3 := w2.same sm3
        have F3' := F2'.trans (Frm.of_same (P := fun l => l.1 = wid) sm3 (F2'.cl hcl))
        refine ⟨_, rfl, _, _, _, _, _, rfl, w3.ob, T.c_World, T.n_World_done, wf_done, _, rfl, _, _, _, _, rfl, rfl, SqT.of (F3'.tup _ _ epa), atI_nat (j := 0) rfl, x.pdn, _, rfl, DPut.k (k := Sum.inl q) w3.hdn (by rw [w3.rdn.length]; exact line_lt hg.dn), ?_⟩
        have t4 := ts_put (o' := .dK (putK x.kdn (Sum.inl q) vr)) w3.hdn (by intro xs z; cases z)
        have w4 := w3.dn' (kdn := putK x.kdn (Sum.inl q) vr) (d := Fm.dput M.done q _) ((w3.rdn.mono fun _ _ g => g.mono t4).put inli q (dr.mono t4))
        have F4' : Frm (fun l => l.1 = wid) H ow _ ow2 := F3'.put (a := x.pdn) (o := .dK (putK x.kdn (Sum.inl q) vr)) (.inr ⟨_, hw.hdn, (by intro xs z; cases z), _, hw.ld, rfl⟩) (.inr (.inr True.intro))
        have dr4 := dr.mono t4
        have gd := DGet.k (k := Sum.inl q) w4.hdn
        rw [valV_put, if_pos rfl] at gd
        have hl := Fm.letLts_len g M.hs.length (({ M.inqAt q with again := Fm.dput (M.inqAt q).again s tk } : Inq).result M.hs.length)
        refine ⟨_, rfl, _, _, _, rfl, w4.ob, wf_lets, _, rfl, _, rfl, _, _, _, _, _, rfl, w4.ob, T.c_World, T.n_World_done, wf_done, _, rfl, _, _, _, _, rfl, rfl, SqT.of (F4'.tup _ _ epa), atI_nat (j := 0) rfl, x.pdn, vr, rfl, gd, wid, ow2, a, _, _, Fm.letLts g M.hs.length _, rfl, ⟨_, w4⟩, F4'.cl hcl, hg.hn, ?_, ⟨g, vr, _, rfl, dr4, Nat.le_trans (Fm.unreached_len hsz) (by omega), rfl⟩, fun H' ow' r f5 w5 o5 e5 => ?_⟩
        · have h1 := hg.ly
          have h2 := hg.hn
          show M.lying.length + (Fm.letLts _ _ _).length ≤ _
          rw [Fm.letLts_len]
          show M.lying.length + M.hs.length ≤ _
          omega
        · refine k H' ow' r (F4'.trans f5) w5 o5 ?_
          rw [e5, hl]
      · rw [decide_eq_false cl]
        rw [if_neg cl] at k
        exact iteF (ret F2' w2 k)
theorem iteT' {b : Bool} {A B : Prop} (e : b = true) (h : A) : if b = true then A else B := by rw [if_pos e]; exact h
theorem iteF' {b : Bool} {A B : Prop} (e : b = false) (h : B) : if b = true then A else B := by rw [if_neg (by rw [e]; decide)]; exact h
theorem strV (a b : Str) : decide (V.str a = V.str b) = decide (a = b) := decide_eq_decide.mpr ⟨fun h => V.str.inj h, fun h => by rw [h]⟩
theorem dropLy {K : PySem.W.Frag} {wid : Nat} {H H' : Hp} {ow ow' : Ow} {a : Addr} {M : Wd} {x : WAd} {n : Int} (h : WIs K wid H ow a M x) (f : Frm (fun m => m = (wid, .po)) H ow H' ow') (g : PAt (pC K) (wid, .po) H' ow' x.po M.last (Fm.ddrop M.lying n)) : WIs K wid H' ow' a { M with lying := Fm.ddrop M.lying n } x := h.pset f g
theorem scDeliver : FnScope ["self", "n", "kind", "sender", "goal", "about"] ["self", "n"] (defScope sW_deliver) := ⟨rfl, rfl, rfl, by decide +kernel, rfl, by decide +kernel, by decide +kernel⟩
theorem ok_deliver (T : Tx K mg) : Ok P w K mg base 6 dW_deliver ["self", "n"] (spDeliver K) := by
  obtain ⟨f1, F1, b1, k1⟩ := ok_taken (P := P) (w := w) (base := base) T
  obtain ⟨f2, F2, b2, k2⟩ := ok_answered (P := P) (w := w) (base := base) T
  obtain ⟨f3, F3, b3, k3⟩ := ok_heard (P := P) (w := w) (base := base) T
  obtain ⟨f4, F4, b4, k4⟩ := ok_wpassed (P := P) (w := w) (base := base) T
  obtain ⟨f5, F5, b5, k5⟩ := ok_backs (P := P) (w := w) (base := base) T
  obtain ⟨f6, F6, b6, k6⟩ := ok_let (P := P) (w := w) (base := base) T
  obtain ⟨f7, F7, b7, k7⟩ := ok_came (P := P) (w := w) (base := base) T
  obtain ⟨f8, F8, b8, k8⟩ := ok_added (P := P) (w := w) (base := base) T
  obtain ⟨f9, F9, b9, k9⟩ := ok_given (P := P) (w := w) (base := base) T
  refine Ok.mk T 56 rfl ⟨rfl, rfl⟩ scDeliver (fun vs H Q E h => ?_) (fun _ _ _ _ _ _ us hl => match us, hl with | [_, _], _ => rfl) (fun cdv A outer s H vs Q E hr h => ?_)
  · obtain ⟨wid, ow, a, M, n, rfl, _⟩ := h
    rfl
  · obtain ⟨wid, ow, a, M, n, rfl, ⟨x, hw⟩, hcl, hg, ho, k⟩ := h
    have hu := hu_of hr
    have hr1 := hr.mono (show 1 ≤ 5 by decide)
    have hr2 := hr.mono (show 2 ≤ 5 by decide)
    refine ⟨_, pss_cons (ps_asg (pe_meth (pe_fld (pv 0) rfl) T.c_Post T.m_Post_taken F1 hr1 b1 .nil (passC (takes_of rfl rfl rfl rfl)) (pa_cons (pv 1) pa_nil))
        (pg_tup rfl (pgs_cons (pg_name (i := 1) scDeliver.nd rfl (.inl rfl)) (pgs_cons (pg_name (i := 2) scDeliver.nd rfl (.inl rfl)) (pgs_cons (pg_name (i := 3) scDeliver.nd rfl (.inl rfl)) (pgs_cons (pg_name (i := 4) scDeliver.nd rfl (.inl rfl)) (pgs_cons (pg_name (i := 5) scDeliver.nd rfl (.inl rfl)) pgs_nil)))))))
      (pss_cons (ps_if (pt_cmpR op_eq (pv 2) pe_str (nomark _)) (pss_one (ps_ret (pe_meth (pv 0) T.c_World T.m_World_answered F2 hr2 b2 .nil passL (pa_cons (pv 3) (pa_cons (pv 4) (pa_cons (pv 5) pa_nil)))))) pss_nil)
      (pss_cons (ps_if (pt_cmpR op_eq (pv 2) pe_str (nomark _)) (pss_one (ps_ret (pe_meth (pv 0) T.c_World T.m_World_heard F3 hr b3 .nil passL (pa_cons (pv 1) (pa_cons (pv 3) (pa_cons (pv 4) (pa_cons (pv 5) pa_nil))))))) pss_nil)
      (pss_cons (ps_if (pt_cmpR op_eq (pv 2) pe_str (nomark _)) (pss_one (ps_ret (pe_meth (pv 0) T.c_World T.m_World_passed F4 hr2 b4 .nil passL (pa_cons (pv 3) (pa_cons (pv 4) (pa_cons (pv 5) pa_nil)))))) pss_nil)
      (pss_cons (ps_if (pt_cmpR op_eq (pv 2) pe_str (nomark _)) (pss_one (ps_ret (pe_meth (pv 0) T.c_World T.m_World_backs F5 hr2 b5 .nil passL (pa_cons (pv 4) (pa_cons (pe_meth (pe_ix ix_list (pe_fld (pv 0) rfl) (pv 4) (fun _ _ => rfl)) T.c_House T.m_House_let F6 hr2 b6 .nil passL (pa_cons (pv 5) pa_nil)) pa_nil))))) pss_nil)
      (pss_cons (ps_if (pt_cmpR op_eq (pv 2) pe_str (nomark _)) (pss_one (ps_expr (pe_meth (pe_ix ix_list (pe_fld (pv 0) rfl) (pv 4) (fun _ _ => rfl)) T.c_House T.m_House_came F7 hr2 b7 .nil passL (pa_cons (pe_ix ix_tup (pv 5) pe_int (fun _ _ => rfl)) (pa_cons (pe_ix ix_tup (pv 5) pe_int (fun _ _ => rfl)) pa_nil)))))
        (pss_one (ps_if (pt_cmpR op_eq (pv 2) pe_str (nomark _)) (pss_one (ps_expr (pe_meth (pe_ix ix_list (pe_fld (pv 0) rfl) (pv 4) (fun _ _ => rfl)) T.c_House T.m_House_added F8 hr1 b8 .nil passL (pa_cons (pe_ix ix_tup (pv 5) pe_int (fun _ _ => rfl)) (pa_cons (pe_ix ix_tup (pv 5) pe_int (fun _ _ => rfl)) pa_nil)))))
          (pss_one (ps_expr (pe_meth (pe_ix ix_list (pe_fld (pv 0) rfl) (pv 4) (fun _ _ => rfl)) T.c_House T.m_House_given F9 hr1 b9 .nil passL (pa_cons (pe_ix ix_tup (pv 5) pe_int (fun _ _ => rfl)) (pa_cons (pe_ix ix_tup (pv 5) pe_int (fun _ _ => rfl)) pa_nil))))))))
      (pss_one (ps_ret (pe_lst pa_nil)))))))), ?_⟩
    unfold Wd.come at k
    obtain ⟨pdx, py, pk, hp⟩ := id hw.post
    refine ⟨_, rfl, _, _, _, _, _, rfl, hw.ob, T.c_World, T.n_World_post, wf_post, _, _, _, rfl, hp.ob, pf_taken, _, rfl, (wid, .po), ow, x.po, M.last, M.lying, n, rfl, hw.post, hcl, ?_⟩
    cases el : Fm.dget M.lying n with
    | none =>
      rw [el] at k
      exact k
    | some l =>
      rw [el] at k
      obtain ⟨hgo, hab⟩ := ho l el
      intro H1 ow1 v f1 g1 dv
      have w1 := dropLy hw f1 g1
      have F1' := frmW f1
      have hg1 : WG { M with lying := Fm.ddrop M.lying n } := ⟨hg.hs, hg.hn, Nat.le_trans Fm.dget_ddrop_sub hg.ly, hg.as_, hg.an, hg.dn, hg.qs⟩
      have cl1 := F1'.cl hcl
      obtain ⟨b, va, rfl, eb, dva⟩ := dLtE dv
      refine ⟨b, _, rfl, SqT.of eb, rfl, _, _, rfl, _, _, rfl, _, _, rfl, _, _, rfl, _, _, rfl, rfl, ?_⟩
      obtain ⟨snd, gl, ab⟩ := l
      dsimp only at k hab hgo dva
      obtain ⟨hb, hhb0, hhb⟩ := w1.house (show ({ M with lying := Fm.ddrop M.lying n } : Wd).is gl = true from hgo)
      have hhb : HAt (hC K) (wid, .hs gl) H1 ow1 hb gl (M.at gl) := hhb
      obtain ⟨y, hy⟩ := id hhb
      obtain ⟨z1, z2, z3⟩ := hg.hs _ _ (Fm.at_of hgo)
      rw [Int.toNat_of_nonneg (Fm.is_iff.mp hgo).1] at z1
      have hix := atI_map (Fm.is_iff.mp hgo).1 hhb0
      cases ab with
      | ask q t =>
        refine ⟨_, rfl, rfl, _, rfl, iteT' (by kernel_rfl) ⟨_, rfl, _, _, _, rfl, w1.ob, wf_answered, _, rfl, _, rfl, _, rfl, wid, ow1, a, _, snd, gl, q, t, va, rfl, ⟨x, w1⟩, cl1, hg1, hgo, dva, fun H' ow' r f2 w2 o2 e2 => k H' ow' r (F1'.trans f2) w2 o2 e2⟩⟩
      | ans q t =>
        refine ⟨_, rfl, rfl, _, rfl, iteF' (by kernel_rfl) ⟨_, rfl, rfl, _, rfl, iteT' (by kernel_rfl) ⟨_, rfl, _, _, _, rfl, w1.ob, wf_heard, _, rfl, _, rfl, _, rfl, _, rfl, wid, ow1, a, _, n, snd, gl, q, t, va, rfl, ⟨x, w1⟩, cl1, hg1, ⟨hab.an, hab.q1, hab.q2, hab.fin⟩, dva, fun H' ow' r f2 w2 o2 e2 => k H' ow' r (F1'.trans f2) w2 o2 e2⟩⟩⟩
      | pass b to =>
        refine ⟨_, rfl, rfl, _, rfl, iteF' (by kernel_rfl) ⟨_, rfl, rfl, _, rfl, iteF' (by kernel_rfl) ⟨_, rfl, rfl, _, rfl, iteT' (by kernel_rfl) ⟨_, rfl, _, _, _, rfl, w1.ob, wf_passed, _, rfl, _, rfl, _, rfl, wid, ow1, a, _, snd, gl, b, to, va, rfl, ⟨x, w1⟩, cl1, hg1, hgo, hab, dva, fun H' ow' r f2 w2 o2 e2 => k H' ow' r (F1'.trans f2) w2 o2 e2⟩⟩⟩⟩
      | lets ts =>
        refine ⟨_, rfl, rfl, _, rfl, iteF' (by kernel_rfl) ⟨_, rfl, rfl, _, rfl, iteF' (by kernel_rfl) ⟨_, rfl, rfl, _, rfl, iteF' (by kernel_rfl) ⟨_, rfl, rfl, _, rfl, iteT' (by kernel_rfl) ?_⟩⟩⟩⟩
        refine ⟨_, rfl, _, _, _, rfl, w1.ob, wf_backs, _, rfl, _, rfl, _, _, _, _, _, rfl, w1.ob, T.c_World, T.n_World_houses, wf_houses, _, rfl, _, _, _, _, rfl, rfl, SqL.of w1.hhs, hix, _, _, _, rfl, hy.ob, hf_let, _, rfl, _, ow1, hb, gl, M.at gl, ts, [va], rfl, ⟨va, rfl, dva⟩, hhb, cl1, z2, z3, z1.rn, z1.nd, z1, fun H2 ow2 r ws f2 ha2 wr er dws => ?_⟩
        have w2 := w1.hset' (show ({ M with lying := Fm.ddrop M.lying n } : Wd).is gl = true from hgo) f2 hhb0 ha2
        have hlb : ((M.at gl).without ts).back.length ≤ 1000 := by
          have h1 := List.length_filterMap_le ((M.at gl).without ts).backT (Fm.sortT (Fm.keys ((M.at gl).without ts).recs))
          have h2 := Fm.length_sortT (Fm.keys ((M.at gl).without ts).recs)
          have h3 : (Fm.keys ((M.at gl).without ts).recs).length = (M.at gl).recs.length := List.length_map ..
          have h4 := z2.hr
          rw [Fm.back_eq]
          omega
        have hls : (Fm.backLts gl ((M.at gl).without ts).back).length = ((M.at gl).without ts).back.length := List.length_map ..
        refine ⟨wid, ow2, a, _, _, Fm.backLts gl ((M.at gl).without ts).back, rfl, ⟨x, w2⟩, (F1'.trans (frmW f2)).cl hcl, by rw [Fm.len_set]; exact hg.hn, ?_, ⟨gl, r, ws, _, rfl, er, wr, dws, rfl⟩, fun H' ow' r' f3 w3 o3 e3 => ?_⟩
        · have := hg1.ly
          have : (Fm.ddrop M.lying n).length ≤ 50000 := this
          show (Fm.ddrop M.lying n).length + _ ≤ _
          omega
        · rw [hls] at e3
          exact k H' ow' r' (F1'.trans ((frmW f2).trans f3)) w3 o3 e3
      | hold b w =>
        refine ⟨_, rfl, rfl, _, rfl, iteF' (by kernel_rfl) ⟨_, rfl, rfl, _, rfl, iteF' (by kernel_rfl) ⟨_, rfl, rfl, _, rfl, iteF' (by kernel_rfl) ⟨_, rfl, rfl, _, rfl, iteF' (by kernel_rfl) ⟨_, rfl, rfl, _, rfl, iteT' (by kernel_rfl) ?_⟩⟩⟩⟩⟩
        obtain ⟨pa, vb, rfl, epa, dvb⟩ := pairE dva
        refine ⟨_, rfl, _, _, _, _, _, rfl, w1.ob, T.c_World, T.n_World_houses, wf_houses, _, rfl, _, _, _, _, rfl, rfl, SqL.of w1.hhs, hix, _, _, _, rfl, hy.ob, hf_came, _, rfl, _, _, _, _, rfl, rfl, SqT.of epa, atI_nat (j := 0) rfl, _, rfl, _, _, _, _, rfl, rfl, SqT.of epa, atI_nat (j := 1) rfl, _, ow1, hb, gl, M.at gl, vb, b, w, rfl, hhb, cl1, z2.hd, z2.ho, z2.hr, dvb, fun H2 ow2 f2 ha2 => ?_⟩
        have w2 := w1.hset' (show ({ M with lying := Fm.ddrop M.lying n } : Wd).is gl = true from hgo) f2 hhb0 ha2
        have F2' := F1'.trans (frmW f2)
        exact ⟨(by show 0 ≤ sizeLine; exact Nat.zero_le _), fun r nr => k _ ow2 r (F2'.new nr) ⟨x, w2.same (same_new nr)⟩ (F2'.cl hcl _ nr) upd_same⟩
      | more b w =>
        refine ⟨_, rfl, rfl, _, rfl, iteF' (by kernel_rfl) ⟨_, rfl, rfl, _, rfl, iteF' (by kernel_rfl) ⟨_, rfl, rfl, _, rfl, iteF' (by kernel_rfl) ⟨_, rfl, rfl, _, rfl, iteF' (by kernel_rfl) ⟨_, rfl, rfl, _, rfl, iteF' (by kernel_rfl) ⟨_, rfl, rfl, _, rfl, iteT' (by kernel_rfl) ?_⟩⟩⟩⟩⟩⟩
        obtain ⟨pa, vb, rfl, epa, dvb⟩ := pairE dva
        refine ⟨_, rfl, _, _, _, _, _, rfl, w1.ob, T.c_World, T.n_World_houses, wf_houses, _, rfl, _, _, _, _, rfl, rfl, SqL.of w1.hhs, hix, _, _, _, rfl, hy.ob, hf_added, _, rfl, _, _, _, _, rfl, rfl, SqT.of epa, atI_nat (j := 0) rfl, _, rfl, _, _, _, _, rfl, rfl, SqT.of epa, atI_nat (j := 1) rfl, _, ow1, hb, gl, M.at gl, vb, b, w, rfl, hhb, cl1, Nat.le_trans z2.hd (by omega), z2.ho, z2.hr, dvb, fun H2 ow2 f2 ha2 => ?_⟩
        have w2 := w1.hset' (show ({ M with lying := Fm.ddrop M.lying n } : Wd).is gl = true from hgo) f2 hhb0 ha2
        have F2' := F1'.trans (frmW f2)
        exact ⟨(by show 0 ≤ sizeLine; exact Nat.zero_le _), fun r nr => k _ ow2 r (F2'.new nr) ⟨x, w2.same (same_new nr)⟩ (F2'.cl hcl _ nr) upd_same⟩
      | back b w =>
        refine ⟨_, rfl, rfl, _, rfl, iteF' (by kernel_rfl) ⟨_, rfl, rfl, _, rfl, iteF' (by kernel_rfl) ⟨_, rfl, rfl, _, rfl, iteF' (by kernel_rfl) ⟨_, rfl, rfl, _, rfl, iteF' (by kernel_rfl) ⟨_, rfl, rfl, _, rfl, iteF' (by kernel_rfl) ⟨_, rfl, rfl, _, rfl, iteF' (by kernel_rfl) ?_⟩⟩⟩⟩⟩⟩
        obtain ⟨pa, vb, rfl, epa, dvb⟩ := pairE dva
        refine ⟨_, rfl, _, _, _, _, _, rfl, w1.ob, T.c_World, T.n_World_houses, wf_houses, _, rfl, _, _, _, _, rfl, rfl, SqL.of w1.hhs, hix, _, _, _, rfl, hy.ob, hf_given, _, rfl, _, _, _, _, rfl, rfl, SqT.of epa, atI_nat (j := 0) rfl, _, rfl, _, _, _, _, rfl, rfl, SqT.of epa, atI_nat (j := 1) rfl, _, ow1, hb, gl, M.at gl, vb, b, w, rfl, hhb, cl1, Nat.le_trans z2.hd (by omega), z2.ho, z2.hr, dvb, fun H2 ow2 f2 ha2 => ?_⟩
        have w2 := w1.hset' (show ({ M with lying := Fm.ddrop M.lying n } : Wd).is gl = true from hgo) f2 hhb0 ha2
        have F2' := F1'.trans (frmW f2)
        exact ⟨(by show 0 ≤ sizeLine; exact Nat.zero_le _), fun r nr => k _ ow2 r (F2'.new nr) ⟨x, w2.same (same_new nr)⟩ (F2'.cl hcl _ nr) upd_same⟩
end
end Fh

set_option Elab.async false
set_option linter.all false
set_option maxRecDepth 100000
set_option maxHeartbeats 4000000
/-! zip of a list and a text -/
namespace FhR
open PySem PySem.Spec PyProof.Rows L2
def ItzS (K : PySem.W.Frag) (a : Addr) (zv : Str) : It :=
  ⟨fun i Hx => ∃ (xs : List V) (x : V) (cv : Nat), SqL K Hx a xs ∧ xs[i]? = some x ∧ zv.cps[i]? = some cv,
    fun i Hx v Hx' => ∃ T x cv, v = .ref T ∧ Hx T = none ∧ Hx' = upd Hx T (.tup [x, .str ⟨#[cv]⟩]) ∧ (∀ xs, SqL K Hx a xs → xs[i]? = some x) ∧ zv.cps[i]? = some cv,
    fun i Hx => ∃ xs : List V, SqL K Hx a xs ∧ xs.length = i ∧ zv.cps.size = i⟩
theorem turn_zipS {P : Program} {w : World} {K : PySem.W.Frag} {elts : List Expr} {kk : Nat} {tpos : Pos} {a zv TI TO iv1 iv2 : Addr} (D : ZipApart zv TI TO iv1 iv2 a a) (tx : Str) (t : Tok) :
    Turn P w K (.Tuple elts kk tpos) (ItzS K a tx) [zv, TI, TO, iv1, iv2] zv (fun i h => IsZip h zv TI TO .none ∧ IsPair h TI (.ref iv1) (.ref iv2) ∧ (∃ x yv, IsPair h TO x yv) ∧ h.IsListIter iv1 a i ∧ h.IsStrIter iv2 (strIterType tx) tx t i) where
  mem := by simp
  obj := fun i h stv cv hc => by
    obtain ⟨hzv, hTI, ⟨x, yv, hTO⟩, ⟨ov1, ev1, _, dv1⟩, ⟨ov2, ev2, _, dv2⟩⟩ := stv
    have ev' : cv = zv ∨ cv = TI ∨ cv = TO ∨ cv = iv1 ∨ cv = iv2 := by simpa using hc
    rcases ev' with qv | qv | qv | qv | qv
    · rw [qv]; exact ⟨_, hzv, fun v qv => nomatch qv⟩
    · rw [qv]; exact ⟨_, hTI, fun v qv => nomatch qv⟩
    · rw [qv]; exact ⟨_, hTO, fun v qv => nomatch qv⟩
    · rw [qv]; exact ⟨ov1, ev1, fun v qv => by rw [dv1] at qv; cases qv⟩
    · rw [qv]; exact ⟨ov2, ev2, fun v qv => by rw [dv2] at qv; cases qv⟩
  keep := fun i h h' stv kv => by
    obtain ⟨hzv, hTI, ⟨x, yv, hTO⟩, hv1, ⟨ov2, ev2, rv2⟩⟩ := stv
    exact ⟨kv zv (by simp) _ hzv, kv TI (by simp) _ hTI, ⟨x, yv, kv TO (by simp) _ hTO⟩, hv1.at fun ov qv => kv iv1 (by simp) ov qv, ⟨ov2, kv iv2 (by simp) ov2 ev2, rv2⟩⟩
  item := by
    intro X hP hwv hK hc i pz s τ Hx E Iw hf stv hg
    subst hP hwv hK
    obtain ⟨hzv, hTI, ⟨x0, yv0, hTO⟩, hv1, hv2⟩ := stv
    obtain ⟨xs, x, c0, hqx, hxv, hc0⟩ := hg
    obtain ⟨itsv, rvv, p, _⟩ := Iw.list hqx
    obtain ⟨uv, huv, ru⟩ := rvv.get hxv
    have hzl : zv < s.heap.objs.size := Heap.lt_size hzv
    have hh : X.A.in1.handled = none := Iw.ok.hd hc
    have S : ZipSep2 zv TI TO iv1 iv2 [iv1, a] [iv2] := ⟨D.TIz, D.TOz, D.TITO, D.TIi1, by simp, by simp [D.i1z.symm, D.l1z.symm], by simp [D.TOi1, D.l1TO.symm], D.TIi2, by simp, by simp [D.i2z.symm], by simp [D.TOi2], by simp [D.i12], by simp [D.i12.symm, D.l1i2.symm]⟩
    have hi1 : i < itsv.toArray.size := by simpa using (List.getElem?_eq_some_iff.mp huv).1
    have hi2 : i < tx.cps.size := (Array.getElem?_eq_some_iff.mp hc0).1
    refine wpAny_pyNext_zipD2_item S (Draws.list hh iv1 a D.l1i1 itsv.toArray) (Draws.text hh iv2 tx t) hzv hTI hTO ⟨hv1, p.isList⟩ hv2 hi1 hi2 fun x1 x2 h' tkv yv1 yv2 zv' TO' dv1 dv2 hT hsz hk => ?_
    obtain ⟨cv, uc, hcx, rfl⟩ := yv2
    have ev1 : x1 = uv := by
      have qv1 : itsv.toArray[i]? = some x1 := yv1
      have qv2 : itsv.toArray[i]? = some uv := by simpa using huv
      rw [qv1] at qv2
      exact Option.some.inj qv2
    subst ev1
    have ev2 : cv = c0 := by
      have qv1 : tx.cps[i]? = some cv := hcx
      rw [hc0] at qv1
      exact (Option.some.inj qv1).symm
    subst ev2
    refine ⟨_, rfl, wpAny_letOwnedTupleGo_zip (s := { s with heap := h', toks := tkv }) zv' fun h'' zv'' sbv => ?_⟩
    have hT2 : h''.get? s.heap.objs.size = some { cls := .type "tuple", data := .seq #[x1, .str ⟨#[cv]⟩ uc] } := (sbv.2 _ (Nat.ne_of_gt hzl)).trans hT
    have new : ObjOk X.prog X.w (upd Hx s.heap.objs.size (.tup [x, .str ⟨#[cv]⟩])) h'' s.heap.objs.size (.tup [x, .str ⟨#[cv]⟩]) :=
      ⟨by show 2 ≤ sizeLine; decide, [x1, .str ⟨#[cv]⟩ uc], .cons ru (.cons ⟨uc, rfl⟩ .nil), ⟨_, hT2, rfl, _, rfl⟩⟩
    have Iw1 : Inv X pz τ (upd Hx s.heap.objs.size (.tup [x, .str ⟨#[cv]⟩])) { s with heap := h'', toks := tkv } :=
      Iw.turnedNew (t' := tkv) (ch := [zv, TI, TO, iv1, iv2]) (fun cv ov hbv qv => (sbv.2 cv (fun qv' => hbv (by simp [qv']))).trans (hk cv ov (fun qv' => hbv (by simp [qv'])) (fun qv' => hbv (by simp [qv'])) (fun qv' => hbv (by simp [qv'])) (fun qv' => hbv (by simp [qv'])) qv)) hf (Nat.le_refl _) new
    refine ⟨.ref s.heap.objs.size, _, Iw1, rfl, ⟨_, x, cv, rfl, Iw.hok.fresh (Nat.le_refl _), rfl, fun lv hlv => by rw [Iw.list_inj hlv hqx]; exact hxv, hc0⟩, ⟨zv'', ?_, ⟨x1, .str ⟨#[cv]⟩ uc, ?_⟩, ?_, ?_⟩, fun cv hcm => ?_⟩
    · exact (sbv.2 _ D.TIz).trans (hk _ _ D.TIz D.TITO D.TIi1 D.TIi2 hTI)
    · exact (sbv.2 _ D.TOz).trans TO'
    · exact dv1.1.at fun ov qv => (sbv.2 _ D.i1z).trans qv
    · obtain ⟨ov2, ev2, rv2⟩ := dv2
      exact ⟨ov2, (sbv.2 _ D.i2z).trans ev2, rv2⟩
    · have hlt : cv < s.heap.objs.size := by
        have ev' : cv = zv ∨ cv = TI ∨ cv = TO ∨ cv = iv1 ∨ cv = iv2 := by simpa using hcm
        rcases ev' with qv | qv | qv | qv | qv
        · rw [qv]; exact hzl
        · rw [qv]; exact Heap.lt_size hTI
        · rw [qv]; exact Heap.lt_size hTO
        · rw [qv]; obtain ⟨_, ev1, _⟩ := hv1; exact Heap.lt_size ev1
        · rw [qv]; obtain ⟨_, ev1, _⟩ := hv2; exact Heap.lt_size ev1
      rw [upd_ne (Nat.ne_of_lt hlt)]
      exact (hf cv hcm).1
  done := by
    intro X hP hwv hK hc i pz s τ Hx E Iw hf stv hg
    subst hP hwv hK
    obtain ⟨hzv, hTI, ⟨x0, yv0, hTO⟩, hv1, hv2⟩ := stv
    obtain ⟨xs, hqx, hl1, hl2⟩ := hg
    obtain ⟨itsv, rvv, p, _⟩ := Iw.list hqx
    have l1 := rvv.length
    have hh : X.A.in1.handled = none := Iw.ok.hd hc
    have S : ZipSep2 zv TI TO iv1 iv2 [iv1, a] [iv2] := ⟨D.TIz, D.TOz, D.TITO, D.TIi1, by simp, by simp [D.i1z.symm, D.l1z.symm], by simp [D.TOi1, D.l1TO.symm], D.TIi2, by simp, by simp [D.i2z.symm], by simp [D.TOi2], by simp [D.i12], by simp [D.i12.symm, D.l1i2.symm]⟩
    have hn1 : i = itsv.toArray.size := by simp; omega
    exact wpAny_pyNext_zipD2_end S (Draws.list hh iv1 a D.l1i1 itsv.toArray) (Draws.text hh iv2 tx t) hzv hTI hTO ⟨hv1, p.isList⟩ hv2 (by omega) (by omega) (.inl hn1) fun h' tkv hk => ⟨rfl, Iw.turnedL (t' := tkv) (ch := [zv, TI, TO, iv1, iv2]) (fun cv ov hbv qv =>
      hk cv ov (fun qv' => hbv (by simp [qv'])) (fun qv' => hbv (by simp [qv'])) (fun qv' => hbv (by simp [qv'])) (fun qv' => hbv (by simp [qv'])) qv) hf⟩
  self := fun A i s Q E stv h => wpAny_pyIter_zip stv.1 h
def iZipS (K : PySem.W.Frag) (ta : TA) : TI := fun τ Hx R => ta τ Hx fun vsv Hx1 => ∃ a tx xs, vsv = [.ref a, .str tx] ∧ SqL K Hx1 a xs ∧ R (ItzS K a tx) Hx1
theorem pi_zipS {X : Cx} {ev ev2 : Expr} {ta : TA} {p pos tpos : Pos} {elts : List Expr} {kk : Nat} (hg : Gl X "zip") (hmv : X.mg "zip" = none) (ha : PA X [ev, ev2] ta)
    (hsv : starEach [ev, ev2] X.env = (false, eval ev X.env) :: starEach [ev2] X.env := by rfl) (hpl : (backTo pos (starEach [ev2] X.env)).any (·.1) = false := by rfl) :
    PI X (.Tuple elts kk tpos) (.Call (.Name "zip" p) [ev, ev2] [] pos) (iZipS X.K ta) := by
  refine ⟨fun pz s τ Hx R Iw h => ?_⟩
  refine Call_ (ld_blt Iw hg hmv PyProof.Rows.boot_zip (PyProof.Rows.callWith_type1 (thn (ha.run pos pz s τ Hx _ Iw h) fun usv sh1 ⟨vsv, Hx1, Iw1, rv1, qv1⟩ => ?_) hsv hpl))
  obtain ⟨a, tx, xs, ex, hqx, qv⟩ := qv1
  subst ex
  cases rv1 with
  | cons r rr =>
    cases rr with
    | cons r' rr =>
      cases rr
      cases r
      obtain ⟨t, rfl⟩ := r'
      obtain ⟨itsv, rvv, p1, _⟩ := Iw1.list hqx
      have la : a < sh1.heap.objs.size := p1.lt
      refine zip_begins2 (begins_list a itsv.toArray) (begins_text tx t) p1.isList trivial fun h' hzv hTI hTO hv1 hv2 hsz hk => wpAny_pyIter_zip hzv ?_
      have Iw2 : Inv X pz τ Hx1 { sh1 with heap := h' } := Iw1.kept (t' := sh1.toks) hk
      refine ⟨sh1.heap.objs.size + 4, [sh1.heap.objs.size + 4, sh1.heap.objs.size + 2, sh1.heap.objs.size + 3, sh1.heap.objs.size, sh1.heap.objs.size + 1], _, _, Hx1, rfl, Iw2, turn_zipS (PySem.W.ktu_apart sh1.heap.objs.size a a la la) tx t, ⟨hzv, hTI, ⟨_, _, hTO⟩, ⟨_, hv1, rfl, rfl⟩, ⟨_, hv2, rfl, rfl⟩⟩, fun cv hcm => ?_, qv⟩
      have ev' : cv = sh1.heap.objs.size + 4 ∨ cv = sh1.heap.objs.size + 2 ∨ cv = sh1.heap.objs.size + 3 ∨ cv = sh1.heap.objs.size ∨ cv = sh1.heap.objs.size + 1 := by simpa using hcm
      have hle : sh1.heap.objs.size ≤ cv := by
        rcases ev' with zv | zv | zv | zv | zv
        · rw [zv]; exact Nat.le_add_right _ _
        · rw [zv]; exact Nat.le_add_right _ _
        · rw [zv]; exact Nat.le_add_right _ _
        · rw [zv]; exact Nat.le_refl _
        · rw [zv]; exact Nat.le_add_right _ _
      exact Iw1.fpOk hle (Iw1.hok.fresh hle)
end FhR

set_option Elab.async false
set_option linter.all false
set_option maxRecDepth 100000
set_option maxHeartbeats 4000000
namespace Fh
open PySem PySem.Spec L2 FhR TL
open Fm (Th Lt Ab)
/-! ### numbers and things as texts -/
def numS (i : Int) : Str := Str.ofString (toString i)
def thS (t : Th) : Str := numS t.1 ++ ("." : Str) ++ numS t.2
def Nm (i : Int) : Prop := 0 ≤ i ∧ i < 1000000000
def Nt (t : Th) : Prop := Nm t.1 ∧ Nm t.2
theorem numS_tl {i : Int} (h : 0 ≤ i) : tl (numS i) = numL i.toNat := by
  obtain ⟨n, rfl⟩ : ∃ n : Nat, i = (n : Int) := ⟨i.toNat, by omega⟩
  exact tl_num n
theorem numS_len {i : Int} (h : Nm i) : 1 ≤ (numS i).length ∧ (numS i).length ≤ 9 := by
  rw [len_tl, numS_tl h.1]
  constructor
  · have := numL_ne i.toNat
    cases e : numL i.toNat with
    | nil => exact absurd e this
    | cons a r => simp
  · exact numL_len (by omega) (by have := h.2; have := h.1; omega)
theorem numS_free {i : Int} {s : Nat} (h : 0 ≤ i) (hs : s < 48 ∨ 57 < s) : s ∉ tl (numS i) := by
  rw [numS_tl h]
  exact numL_free hs
theorem numS_read {i : Int} (h : Nm i) : intText? (numS i) = some i := by
  have hl := (numS_len h).2
  rw [len_tl, numS_tl h.1] at hl
  have := int_num (n := i.toNat) (by omega)
  rw [Int.toNat_of_nonneg h.1] at this
  exact this
theorem numS_log {i : Int} (h : Nm i) : i.natAbs.log2 < 1920 := by
  by_cases c : i.natAbs = 0
  · rw [c]
    decide
  · have h1 : i.natAbs < 2 ^ 30 := by have := h.1; have := h.2; omega
    have := (Nat.log2_lt c).mpr h1
    omega
theorem numL_head : ∀ n : Nat, ∀ c r, numL n = c :: r → c = 48 → n = 0 := by
  intro n
  induction n using Nat.strongRecOn with
  | ind n ih =>
    intro c r e hc
    by_cases h : n < 10
    · rw [numL_lt h] at e
      injection e with e1 _
      omega
    · rw [numL_step (by omega)] at e
      cases e2 : numL (n / 10) with
      | nil => exact absurd e2 (numL_ne _)
      | cons a b =>
        rw [e2] at e
        injection e with e1 _
        have := ih (n / 10) (by omega) a b e2 (by omega)
        omega
theorem zeroS : numS 0 = ("0" : Str) := by kernel_rfl
theorem numS_zero {i : Int} {c : Nat} {r : List Nat} (h : 0 ≤ i) (e : tl (numS i) = c :: r) (hc : c = 48) : i = 0 := by
  rw [numS_tl h] at e
  have := numL_head _ _ _ e hc
  omega
theorem numS_sign {i : Int} (h : 0 ≤ i) {c : Nat} (hc : c ∈ tl (numS i)) : 48 ≤ c ∧ c ≤ 57 := by
  rw [numS_tl h] at hc
  exact numL_digits i.toNat c hc
theorem len_app (a b : Str) : (a ++ b).length = a.length + b.length := by
  rw [len_tl, len_tl, len_tl, tl_append, List.length_append]
theorem thS_len {t : Th} (h : Nt t) : (thS t).length ≤ 19 := by
  have h1 := (numS_len h.1).2
  have h2 := (numS_len h.2).2
  unfold thS
  rw [len_app, len_app]
  show _ + 1 + _ ≤ 19
  omega
theorem dotL : tl ("." : Str) = [46] := by decide +kernel
theorem spL : tl (" " : Str) = [32] := by decide +kernel
theorem thS_free {t : Th} (h : Nt t) : 32 ∉ tl (thS t) := by
  unfold thS
  rw [tl_append, tl_append, dotL]
  intro z
  rcases List.mem_append.mp z with z | z
  · rcases List.mem_append.mp z with z | z
    · exact numS_free h.1.1 (.inl (by decide)) z
    · simp at z
  · exact numS_free h.2.1 (.inl (by decide)) z
theorem thS_part {t : Th} (h : Nt t) : Txt.partition (thS t) ("." : Str) = (numS t.1, ("." : Str), numS t.2) :=
  partition_app dotL (numS_free h.1.1 (.inl (by decide)))
/-! ### pieces of rows -/
inductive Pc where
  | n (i : Int) | t (b : Th)
def pcS : Pc → Str
  | .n i => numS i
  | .t b => thS b
def pcD : Pc → PyData
  | .n i => .int i
  | .t b => dTh b
def pcK : Pc → Nat
  | .n _ => 110
  | .t _ => 116
def Pc.ok : Pc → Prop
  | .n i => Nm i
  | .t b => Nt b
theorem pcS_free {p : Pc} (h : p.ok) : 32 ∉ tl (pcS p) := by
  cases p with
  | n i => exact numS_free h.1 (.inl (by decide))
  | t b => exact thS_free h
theorem pcS_len {p : Pc} (h : p.ok) : (pcS p).length ≤ 19 := by
  cases p with
  | n i => exact Nat.le_trans (numS_len h).2 (by decide)
  | t b => exact thS_len h
/-- a row: a word and its pieces -/
def rowJoin (w : Str) (ps : List Str) : Str := ps.foldl (fun acc p => acc ++ (" " : Str) ++ p) w
theorem tl_rowJoin : ∀ (ps : List Str) (w : Str), tl (rowJoin w ps) = joinL [32] ((w :: ps).map tl)
  | [], w => rfl
  | p :: ps, w => by
    show tl (rowJoin (w ++ (" " : Str) ++ p) ps) = _
    rw [tl_rowJoin ps]
    cases ps with
    | nil =>
      show tl (w ++ (" " : Str) ++ p) = tl w ++ ([32] ++ tl p)
      rw [tl_append, tl_append, spL, List.append_assoc]
    | cons q r =>
      show tl (w ++ (" " : Str) ++ p) ++ ([32] ++ joinL [32] ((q :: r).map tl)) = tl w ++ ([32] ++ (tl p ++ ([32] ++ joinL [32] ((q :: r).map tl))))
      rw [tl_append, tl_append, spL]
      simp
theorem rowJoin_eq (w : Str) (ps : List Str) : rowJoin w ps = Txt.join (" " : Str) (w :: ps) := by
  refine ext_tl ?_
  rw [tl_rowJoin, join_eq, tl_join, spL]
theorem split_row {w : Str} {ps : List Str} (h : ∀ p ∈ w :: ps, 32 ∉ tl p) : Txt.split (rowJoin w ps) (" " : Str) = w :: ps := by
  rw [rowJoin_eq]
  exact split_join spL (by decide +kernel) (by simp) h
theorem rowJoin_len : ∀ (ps : List Str) (w : Str), (∀ p ∈ ps, p.length ≤ 19) → (rowJoin w ps).length ≤ w.length + 20 * ps.length
  | [], w, _ => by simp [rowJoin]
  | p :: ps, w, h => by
    have h1 := rowJoin_len ps (w ++ (" " : Str) ++ p) fun q hq => h q (List.mem_cons_of_mem _ hq)
    have h2 := h p List.mem_cons_self
    have h3 : (w ++ (" " : Str) ++ p).length = w.length + 1 + p.length := by rw [len_app, len_app]; rfl
    show (rowJoin (w ++ (" " : Str) ++ p) ps).length ≤ _
    rw [List.length_cons]
    omega
theorem partition_row1 {w p : Str} (h : 32 ∉ tl w) : Txt.partition (rowJoin w [p]) (" " : Str) = (w, (" " : Str), p) := partition_app spL h
theorem partition_row0 {w : Str} (h : 32 ∉ tl w) : Txt.partition (rowJoin w []) (" " : Str) = (w, Str.empty, Str.empty) := partition_none spL h
/-! ### lists of texts -/
def listS (xs : List Str) : Str := if xs.isEmpty = true then ("none" : Str) else Txt.join (" " : Str) xs
def ltS (e : Int × Lt) : Str := numS e.1 ++ (":" : Str) ++ kindS e.2.ab ++ (":" : Str) ++ numS e.2.sender ++ (":" : Str) ++ numS e.2.goal
theorem kindS_len : ∀ ab : Ab, (kindS ab).length ≤ 6
  | .ask _ _ => by show ("ask" : Str).length ≤ 6; decide +kernel
  | .ans _ _ => by show ("answer" : Str).length ≤ 6; decide +kernel
  | .hold _ _ => by show ("hold" : Str).length ≤ 6; decide +kernel
  | .pass _ _ => by show ("pass" : Str).length ≤ 6; decide +kernel
  | .more _ _ => by show ("more" : Str).length ≤ 6; decide +kernel
  | .back _ _ => by show ("back" : Str).length ≤ 6; decide +kernel
  | .lets _ => by show ("let" : Str).length ≤ 6; decide +kernel
theorem ltS_len {e : Int × Lt} (h1 : Nm e.1) (h2 : Nm e.2.sender) (h3 : Nm e.2.goal) : (ltS e).length ≤ 40 := by
  have a1 := (numS_len h1).2
  have a2 := (numS_len h2).2
  have a3 := (numS_len h3).2
  have a4 := kindS_len e.2.ab
  unfold ltS
  rw [len_app, len_app, len_app, len_app, len_app, len_app]
  show _ + 1 + _ + 1 + _ + 1 + _ ≤ 40
  omega
/-! ### all signs are signs -/
def okS (x : Str) : Prop := ∀ c ∈ tl x, c < 1114112
theorem okS_app {a b : Str} (ha : okS a) (hb : okS b) : okS (a ++ b) := by
  intro c hc
  rw [tl_append] at hc
  rcases List.mem_append.mp hc with z | z
  · exact ha c z
  · exact hb c z
theorem okS_num {i : Int} (h : 0 ≤ i) : okS (numS i) := fun c hc => by
  have := numS_sign h hc
  omega
theorem okS_of {x : Str} (h : x.cps.all (· < 1114112) = true) : okS x := fun c hc => by
  have h2 := Array.all_eq_true_iff_forall_mem.mp h c (Array.mem_toList_iff.mp hc)
  exact of_decide_eq_true h2
theorem okS_th {t : Th} (h : Nt t) : okS (thS t) := okS_app (okS_app (okS_num h.1.1) (okS_of (by decide +kernel))) (okS_num h.2.1)
theorem okS_kind : ∀ ab : Ab, okS (kindS ab)
  | .ask _ _ => okS_of (x := "ask") (by decide +kernel)
  | .ans _ _ => okS_of (x := "answer") (by decide +kernel)
  | .hold _ _ => okS_of (x := "hold") (by decide +kernel)
  | .pass _ _ => okS_of (x := "pass") (by decide +kernel)
  | .more _ _ => okS_of (x := "more") (by decide +kernel)
  | .back _ _ => okS_of (x := "back") (by decide +kernel)
  | .lets _ => okS_of (x := "let") (by decide +kernel)
theorem okS_lt {e : Int × Lt} (h1 : Nm e.1) (h2 : Nm e.2.sender) (h3 : Nm e.2.goal) : okS (ltS e) := by
  have c : okS (":" : Str) := okS_of (by decide +kernel)
  exact okS_app (okS_app (okS_app (okS_app (okS_app (okS_app (okS_num h1.1) c) (okS_kind _)) c) (okS_num h2.1)) c) (okS_num h3.1)
theorem okS_ok {x : Str} (h : okS x) : PyData.strOk x = true := by
  unfold PyData.strOk
  rw [Array.all_eq_true_iff_forall_mem]
  intro c hc
  exact decide_eq_true (h c (Array.mem_toList_iff.mpr hc))
end Fh

set_option Elab.async false
set_option linter.all false
set_option maxRecDepth 100000
set_option maxHeartbeats 4000000
namespace Fh
open PySem PySem.Spec L2 FhR
open Fm (Th Hs StD Wd Er HG HB HSm Sts SZ Inq Lt Ab WG)
def spNumber : Sp := fun vs H Q _ => ∃ i, vs = [.str (numS i)] ∧ Nm i ∧ Q (.int i) H
def spThing : Sp := fun vs H Q _ => ∃ t, vs = [.str (thS t)] ∧ Nt t ∧ ∀ H' v, Same H H' → DV H' v (dTh t) → Q v H'
def kindsS (ps : List Pc) : Str := ⟨(ps.map pcK).toArray⟩
def spReadBy : Sp := fun vs H Q _ => ∃ (p : Addr) (ps : List Pc), vs = [.ref p, .str (kindsS ps)] ∧ H p = some (.lst ((ps.map pcS).map V.str)) ∧ ps.length ≤ 10 ∧ (∀ x ∈ ps, x.ok) ∧
  ∀ H' r ws, Same H H' → H r = none → H' r = some (.lst ws) → DVs H' ws (ps.map pcD) → Q (.ref r) H'
def spThText : Sp := fun vs H Q _ => ∃ v t, vs = [v] ∧ DV H v (dTh t) ∧ Nt t ∧ Q (.str (thS t)) H
def spListed : Sp := fun vs H Q _ => ∃ (p : Addr) (xs : List Str), vs = [.ref p] ∧ H p = some (.lst (xs.map V.str)) ∧ xs.length ≤ 100000 ∧ (∀ x ∈ xs, x.length ≤ 100 ∧ okS x) ∧ ∀ H', Same H H' → Q (.str (listS xs)) H'
def spLtText : Sp := fun vs H Q _ => ∃ v e, vs = [v] ∧ DV H v (dLt e) ∧ Nm e.1 ∧ Nm e.2.sender ∧ Nm e.2.goal ∧ Q (.str (ltS e)) H
theorem sign_in {c : Nat} (h : 48 ≤ c ∧ c ≤ 57) : c ∈ (Str.ofString "0123456789").cps.toList := by
  have e : (Str.ofString "0123456789").cps.toList = [48, 49, 50, 51, 52, 53, 54, 55, 56, 57] := by decide +kernel
  rw [e]
  simp
  omega
theorem dpAll_strs {K : PySem.W.Frag} {H : Hp} : ∀ l : List Str, DpAll K H (l.map V.str) (l.map PyData.str)
  | [] => .nil
  | _ :: l => .cons (.str _) (dpAll_strs l)
theorem sum_len : ∀ (xs : List Str), (∀ x ∈ xs, x.length ≤ 100) → (xs.map (·.length)).sum ≤ 100 * xs.length
  | [], _ => by simp
  | x :: r, h => by
    have h1 := sum_len r fun y hy => h y (List.mem_cons_of_mem _ hy)
    have h2 := h x List.mem_cons_self
    simp only [List.map_cons, List.sum_cons, List.length_cons]
    omega
section
variable {P : Program} {w : World} {K : PySem.W.Frag} {mg : Str → Option Value} {base : Heap}
theorem scNumber : FnScope ["piece", "sign"] ["piece"] (defScope s_number_of) := ⟨rfl, rfl, rfl, by decide +kernel, rfl, by decide +kernel, by decide +kernel⟩
theorem ok_number_of (T : Tx K mg) : Ok P w K mg base 1 d_number_of ["piece"] spNumber := by
  obtain ⟨t1, ht1⟩ := T.most
  obtain ⟨t2, ht2⟩ := T.figures
  refine Ok.mk T 57 rfl ⟨rfl, rfl⟩ scNumber (fun vs H Q E h => ?_) (fun _ _ _ _ _ _ us hl => match us, hl with | [_], _ => rfl) (fun cdv A outer s H vs Q E hr h => ?_)
  · obtain ⟨i, rfl, _⟩ := h
    rfl
  · obtain ⟨i, rfl, hi, q⟩ := h
    refine ⟨_, pss_cons (ps_if (PW.pt (pw_or (pt_not (pt_chain op_le op_le pe_int (pe_callB call_len rfl T.f_len boot_len (pa_cons (pv 0) pa_nil)) (pe_glob (v := .int 9) rfl ht1 ⟨t1, rfl⟩)))
          (pw_or1 (PW.pt (pw_and (pt_cmpR op_eq (pe_item_str (pv 0) pe_int (fun _ _ => rfl)) pe_str (nomark _)) (pw_and1 (pt_cmpR op_ne (pv 0) pe_str (nomark _))))))))
        (pss_one (ps_raise rfl (takes_of rfl rfl rfl rfl) (pmk_own PySem.F.excBase_ValueError T.e_NoRow.1 T.g_NoRow T.e_NoRow.2.1 (raises_own T.e_NoRow.2.2.1 T.e_NoRow.2.2.2) rfl))) pss_nil)
      (pss_cons (ps_for (passes_of rfl) rfl (pi_str (pv 0)) (pg_name (i := 1) scNumber.nd rfl (.inl rfl))
        (pss_one (ps_if (pt_cmpR op_notIn_sign (pv 1) (pe_glob (v := .str "0123456789") rfl ht2 ⟨t2, rfl⟩) (by rfl))
          (pss_one (ps_raise rfl (takes_of rfl rfl rfl rfl) (pmk_own PySem.F.excBase_ValueError T.e_NoRow.1 T.g_NoRow T.e_NoRow.2.1 (raises_own T.e_NoRow.2.2.1 T.e_NoRow.2.2.2) rfl))) pss_nil)))
      (pss_one (ps_ret (pe_callTy call_int_str rfl T.f_int PyProof.Rows.boot_int (pa_cons (pv 0) pa_nil))))), ?_⟩
    obtain ⟨l1, l2⟩ := numS_len hi
    refine ⟨_, rfl, _, _, rfl, ⟨by rw [sizeLine_eq]; omega, rfl⟩, _, _, rfl, rfl, _, rfl, ?_⟩
    rw [decide_eq_true (show (1 : Int) ≤ ((numS i).length : Nat) by omega)]
    refine iteT ⟨_, _, rfl, rfl, _, rfl, ?_⟩
    rw [decide_eq_true (show (((numS i).length : Nat) : Int) ≤ 9 by omega)]
    refine iteF ?_
    cases e : TL.tl (numS i) with
    | nil =>
      rw [TL.len_tl, e] at l1
      simp at l1
    | cons c r =>
      have hc0 : (numS i).cps[0]? = some c := by
        rw [← Array.getElem?_toList]
        show (TL.tl (numS i))[0]? = _
        rw [e]
        rfl
      have h48 : (c = 48 ∧ numS i = ("0" : Str)) ∨ c ≠ 48 := by
        by_cases h : c = 48
        · exact .inl ⟨h, by rw [numS_zero hi.1 e h]; exact zeroS⟩
        · exact .inr h
      refine ⟨_, rfl, _, _, _, rfl, rfl, by decide, by decide, by omega, hc0, rfl, _, rfl, ?_⟩
      rw [strV]
      rcases h48 with ⟨h1, h2⟩ | h1
      rotate_left 1
      rw [decide_eq_false (fun z : (⟨#[c]⟩ : Str) = ("0" : Str) => h1 (by
        have z2 := congrArg TL.tl z
        have z3 : TL.tl ("0" : Str) = [48] := by decide +kernel
        rw [z3] at z2
        have z4 : [c] = [48] := z2
        exact List.head_eq_of_cons_eq z4))]
      refine iteF (iteF ?_)
      rotate_left 1
      refine iteT' (by rw [h1]; decide +kernel) ⟨_, rfl, rfl, _, rfl, iteF' ?_ ?_⟩
      rw [h2, strV]
      decide +kernel
      rotate_left 1
      all_goals
        refine ⟨_, rfl, _, rfl, ?_⟩
        refine for_it (walk_str (z := numS i)) (fun j σ H' => ∃ v1 : Option V, σ = [some (.str (numS i)), v1] ∧ H' = H) ⟨_, rfl, rfl⟩ (fun _ _ _ _ _ => True.intro) ?_ ?_
        · rintro j v σ H5 H4 hj ⟨v1, rfl, rfl⟩ ⟨rfl, d, hd, rfl⟩
          refine ⟨_, rfl, d, _, rfl, rfl, _, rfl, ?_⟩
          rw [decide_eq_true (sign_in (numS_sign hi.1 (by
            show d ∈ (numS i).cps.toList
            exact List.mem_of_getElem? (show (numS i).cps.toList[j]? = some d by rw [Array.getElem?_toList]; exact hd))))]
          exact iteF ⟨_, rfl, rfl⟩
        · rintro σ H4 ⟨v1, rfl, rfl⟩
          exact ⟨_, rfl, _, i, rfl, numS_read hi, by omega, q⟩
theorem scThing : FnScope ["piece", "house", "dot", "number"] ["piece"] (defScope s_thing_of) := ⟨rfl, rfl, rfl, by decide +kernel, rfl, by decide +kernel, by decide +kernel⟩
theorem ok_thing_of (T : Tx K mg) : Ok P w K mg base 2 d_thing_of ["piece"] spThing := by
  obtain ⟨f1, F1, b1, k1⟩ := ok_number_of (P := P) (w := w) (base := base) T
  refine Ok.mk T 58 rfl ⟨rfl, rfl⟩ scThing (fun vs H Q E h => ?_) (fun _ _ _ _ _ _ us hl => match us, hl with | [_], _ => rfl) (fun cdv A outer s H vs Q E hr h => ?_)
  · obtain ⟨t, rfl, _⟩ := h
    rfl
  · obtain ⟨t, rfl, ht, q⟩ := h
    refine ⟨_, pss_cons (ps_asg (pe_partition (pv 0) pe_str) (pg_tup rfl (pgs_cons (pg_name (i := 1) scThing.nd rfl (.inl rfl)) (pgs_cons (pg_name (i := 2) scThing.nd rfl (.inl rfl)) (pgs_cons (pg_name (i := 3) scThing.nd rfl (.inl rfl)) pgs_nil)))))
      (pss_cons (ps_if (pt_cmpR op_eq (pv 2) pe_str (nomark _))
        (pss_one (ps_raise rfl (takes_of rfl rfl rfl rfl) (pmk_own PySem.F.excBase_ValueError T.e_NoRow.1 T.g_NoRow T.e_NoRow.2.1 (raises_own T.e_NoRow.2.2.1 T.e_NoRow.2.2.2) rfl))) pss_nil)
      (pss_one (ps_ret (pe_tup (pa_cons (pe_call F1 hr rfl T.g_number_of k1 b1 .nil passL (pa_cons (pv 1) pa_nil)) (pa_cons (pe_call F1 hr rfl T.g_number_of k1 b1 .nil passL (pa_cons (pv 3) pa_nil)) pa_nil)))))), ?_⟩
    refine ⟨_, rfl, ⟨_, rfl⟩, _, _, rfl, rfl, by decide +kernel, by have := thS_len ht; rw [sizeLine_eq]; omega, fun p np => ?_⟩
    rw [thS_part ht]
    refine ⟨p, _, rfl, SqT.of upd_same, rfl, _, _, rfl, _, _, rfl, _, _, rfl, rfl, ?_⟩
    refine ⟨_, rfl, rfl, _, rfl, iteF' (by kernel_rfl) ?_⟩
    refine ⟨_, rfl, t.1, rfl, ht.1, _, rfl, t.2, rfl, ht.2, (by show 2 ≤ sizeLine; decide), fun p2 n2 => ?_⟩
    exact q _ _ ((same_new np).trans (same_new n2)) (.mkTh upd_same)
theorem scReadBy : FnScope ["pieces", "kinds", "found", "piece", "kind"] ["pieces", "kinds"] (defScope s_read_by) := ⟨rfl, rfl, rfl, by decide +kernel, rfl, by decide +kernel, by decide +kernel⟩
theorem ok_read_by (T : Tx K mg) : Ok P w K mg base 3 d_read_by ["pieces", "kinds"] spReadBy := by
  obtain ⟨f1, F1, b1, k1⟩ := ok_number_of (P := P) (w := w) (base := base) T
  obtain ⟨f2, F2, b2, k2⟩ := ok_thing_of (P := P) (w := w) (base := base) T
  refine Ok.mk T 59 rfl ⟨rfl, rfl⟩ scReadBy (fun vs H Q E h => ?_) (fun _ _ _ _ _ _ us hl => match us, hl with | [_, _], _ => rfl) (fun cdv A outer s H vs Q E hr h => ?_)
  · obtain ⟨p, ps, rfl, _⟩ := h
    rfl
  · obtain ⟨p, ps, rfl, hp, hl, hok, q⟩ := h
    have hr1 := hr.mono (show 1 ≤ 2 by decide)
    refine ⟨_, pss_cons (ps_if (pt_cmpR op_ne (pe_callB call_len rfl T.f_len boot_len (pa_cons (pv 0) pa_nil)) (pe_callB call_len rfl T.f_len boot_len (pa_cons (pv 1) pa_nil)) (nomark _))
        (pss_one (ps_raise rfl (takes_of rfl rfl rfl rfl) (pmk_own PySem.F.excBase_ValueError T.e_NoRow.1 T.g_NoRow T.e_NoRow.2.1 (raises_own T.e_NoRow.2.2.1 T.e_NoRow.2.2.2) rfl))) pss_nil)
      (pss_cons (ps_set (i := 2) scReadBy.nd rfl (.inl rfl) (pe_lst pa_nil))
      (pss_cons (ps_for (passes_of rfl) rfl (pi_zipS rfl T.f_zip (pa_cons (pv 0) (pa_cons (pv 1) pa_nil))) (pg_tup rfl (pgs_cons (pg_name (i := 3) scReadBy.nd rfl (.inl rfl)) (pgs_cons (pg_name (i := 4) scReadBy.nd rfl (.inl rfl)) pgs_nil)))
        (pss_one (ps_if (pt_cmpR op_eq (pv 4) pe_str (nomark _))
          (pss_one (ps_expr (pe_bm PySem.F.plainAttrs_list PySem.F.slot_list_append PySem.F.type_list_append mt_append (pv 2) (pa_cons (pe_call F1 hr1 rfl T.g_number_of k1 b1 .nil passL (pa_cons (pv 3) pa_nil)) pa_nil))))
          (pss_one (ps_expr (pe_bm PySem.F.plainAttrs_list PySem.F.slot_list_append PySem.F.type_list_append mt_append (pv 2) (pa_cons (pe_call F2 hr rfl T.g_thing_of k2 b2 .nil passL (pa_cons (pv 3) pa_nil)) pa_nil)))))))
      (pss_one (ps_ret (pv 2))))), ?_⟩
    have hkl : (kindsS ps).length = ps.length := by
      show ((ps.map pcK).toArray).size = _
      simp
    have hvl : ((ps.map pcS).map V.str).length = ps.length := by simp
    refine ⟨_, rfl, _, _, rfl, .inl ⟨_, SqL.of hp, rfl⟩, _, rfl, _, _, rfl, ⟨by rw [hkl, sizeLine_eq]; omega, rfl⟩, rfl, _, rfl, ?_⟩
    rw [hkl, hvl, decide_eq_true rfl]
    refine iteF ⟨(by show 0 ≤ sizeLine; exact Nat.zero_le _), fun D nD => ?_⟩
    have s0 := same_new (o := .lst []) nD
    have eD : upd H D (.lst []) D = some (.lst []) := upd_same
    generalize upd H D (.lst []) = H1 at s0 eD
    refine ⟨_, rfl, _, rfl, p, _, _, rfl, SqL.of (s0 _ _ hp), ?_⟩
    have wz : Walk (ItzS K p (kindsS ps)) ps.length (fun H => H p = some (.lst ((ps.map pcS).map V.str))) (fun i H v H' => ∃ T x, v = .ref T ∧ H T = none ∧ H' = upd H T (.tup [.str (pcS x), .str ⟨#[pcK x]⟩]) ∧ ps[i]? = some x) := by
      refine ⟨fun i H hi hg => ?_, fun H hg => ?_, fun i H v H' hi hg hy => ?_⟩
      · refine ⟨_, .str (pcS ps[i]), pcK ps[i], SqL.of hg, by simp [hi], ?_⟩
        show ((ps.map pcK).toArray)[i]? = _
        simp [hi]
      · exact ⟨_, SqL.of hg, hvl, hkl⟩
      · obtain ⟨T', x, c, rfl, h1, rfl, h2, h3⟩ := hy
        have hx := h2 _ (SqL.of hg)
        have e1 : x = .str (pcS ps[i]) := by
          rw [List.map_map, List.getElem?_map, List.getElem?_eq_getElem hi] at hx
          exact (Option.some.inj hx).symm
        have e2 : c = pcK ps[i] := by
          have h3' : ((ps.map pcK).toArray)[i]? = some c := h3
          simp [hi] at h3'
          exact h3'.symm
        exact ⟨T', ps[i], rfl, h1, by rw [e1, e2], List.getElem?_eq_getElem hi⟩
    have npD : p ≠ D := ne_of_none hp nD
    refine for_it wz (fun j σ H' => ∃ (v3 v4 : Option V) (acc : List V), σ = [some (.ref p), some (.str (kindsS ps)), some (.ref D), v3, v4] ∧ Same H H' ∧ H' D = some (.lst acc) ∧ DVs H' acc ((ps.take j).map pcD))
      ⟨_, _, [], rfl, s0, eD, .nil⟩ (fun j σ H' _ z => by obtain ⟨_, _, _, _, z, _⟩ := z; exact z _ _ hp) ?_ ?_
    · rintro j v σ H5 H4 hj ⟨v3, v4, acc, rfl, sm, hD, hacc⟩ ⟨T', x, rfl, nT, rfl, hx⟩
      have et := take_succ_at hx
      have hxo := hok x (List.mem_of_getElem? hx)
      have s1 := sm.trans (same_new (o := .tup [.str (pcS x), .str ⟨#[pcK x]⟩]) nT)
      have t1 := Same.ts (same_new (o := .tup [.str (pcS x), .str ⟨#[pcK x]⟩]) nT)
      have D1 := keepL hD nT (o := .tup [.str (pcS x), .str ⟨#[pcK x]⟩])
      have eT : upd H5 T' (.tup [.str (pcS x), .str ⟨#[pcK x]⟩]) T' = some (.tup [.str (pcS x), .str ⟨#[pcK x]⟩]) := upd_same
      have a1 := hacc.mono t1
      generalize upd H5 T' (.tup [.str (pcS x), .str ⟨#[pcK x]⟩]) = H6 at s1 t1 D1 eT a1
      have hal : acc.length < sizeLine := by
        rw [hacc.length, List.length_map]
        have := List.length_take_le' j ps
        exact line_lt (by omega)
      refine ⟨T', _, rfl, SqT.of eT, rfl, _, _, rfl, _, _, rfl, rfl, ?_⟩
      refine ⟨_, rfl, rfl, _, rfl, ?_⟩
      rw [strV]
      cases x with
      | n i =>
        refine iteT' (by kernel_rfl) ⟨_, rfl, .inl ⟨rfl, _, SqL.of D1⟩, _, rfl, i, rfl, hxo, D, acc, _, rfl, rfl, D1, hal, ?_⟩
        have t2 := ts_put (o' := .lst (acc ++ [.int i])) D1 (by intro xs z; cases z)
        refine ⟨_, _, _, rfl, same_put s1 nD, upd_same, ?_⟩
        rw [et, List.map_append]
        exact (a1.mono t2).snoc (.int i)
      | t b =>
        refine iteF' (by kernel_rfl) ⟨_, rfl, .inl ⟨rfl, _, SqL.of D1⟩, _, rfl, b, rfl, hxo, fun H7 v s7 dv => ?_⟩
        have D7 := s7 _ _ D1
        refine ⟨D, acc, v, rfl, rfl, D7, hal, ?_⟩
        have t2 := ts_put (o' := .lst (acc ++ [v])) D7 (by intro xs z; cases z)
        refine ⟨_, _, _, rfl, same_put (s1.trans s7) nD, upd_same, ?_⟩
        rw [et, List.map_append]
        exact ((a1.mono (Same.ts s7)).mono t2).snoc (dv.mono t2)
    · rintro σ H4 ⟨v3, v4, acc, rfl, sm, hD, hacc⟩
      rw [List.take_length] at hacc
      exact ⟨_, rfl, q _ D acc sm nD hD hacc⟩
theorem scThText : FnScope ["thing"] ["thing"] (defScope s_thing_text) := ⟨rfl, rfl, rfl, by decide +kernel, rfl, by decide +kernel, by decide +kernel⟩
theorem ok_thing_text (T : Tx K mg) : Ok P w K mg base 1 d_thing_text ["thing"] spThText := by
  refine Ok.mk T 60 rfl ⟨rfl, rfl⟩ scThText (fun vs H Q E h => ?_) (fun _ _ _ _ _ _ us hl => match us, hl with | [_], _ => rfl) (fun cdv A outer s H vs Q E hr h => ?_)
  · obtain ⟨v, t, rfl, _⟩ := h
    rfl
  · obtain ⟨v, t, rfl, dv, ht, q⟩ := h
    obtain ⟨c, rfl, hc⟩ := dv.th
    refine ⟨_, pss_one (ps_ret (pe_op op_add_str (pe_op op_add_str (pe_callTy call_str_int rfl T.f_str PyProof.Rows.boot_str (pa_cons (pe_ix ix_tup (pv 0) pe_int (fun _ _ => rfl)) pa_nil)) pe_str) (pe_callTy call_str_int rfl T.f_str PyProof.Rows.boot_str (pa_cons (pe_ix ix_tup (pv 0) pe_int (fun _ _ => rfl)) pa_nil)))), ?_⟩
    have l1 := (numS_len ht.1).2
    have l2 := (numS_len ht.2).2
    refine ⟨_, rfl, _, _, _, _, rfl, rfl, SqT.of hc, atI_nat (j := 0) rfl, t.1, rfl, numS_log ht.1, _, _, rfl, rfl, ?_, _, rfl, _, _, _, _, rfl, rfl, SqT.of hc, atI_nat (j := 1) rfl, t.2, rfl, numS_log ht.2, _, _, rfl, rfl, ?_, q⟩
    · show (numS t.1).length + 1 ≤ sizeLine
      rw [sizeLine_eq]
      omega
    · show (numS t.1 ++ ("." : Str)).length + (numS t.2).length ≤ sizeLine
      rw [len_app, sizeLine_eq]
      show _ + 1 + _ ≤ _
      omega
theorem scListed : FnScope ["texts"] ["texts"] (defScope s_listed) := ⟨rfl, rfl, rfl, by decide +kernel, rfl, by decide +kernel, by decide +kernel⟩
theorem ok_listed (T : Tx K mg) : Ok P w K mg base 1 d_listed ["texts"] spListed := by
  refine Ok.mk T 61 rfl ⟨rfl, rfl⟩ scListed (fun vs H Q E h => ?_) (fun _ _ _ _ _ _ us hl => match us, hl with | [_], _ => rfl) (fun cdv A outer s H vs Q E hr h => ?_)
  · obtain ⟨p, xs, rfl, _⟩ := h
    rfl
  · obtain ⟨p, xs, rfl, hp, hl, hx, q⟩ := h
    refine ⟨_, pss_cons (ps_if (pt_cmpR (op_eqD hr.units) (pv 0) (pe_lst pa_nil) (nomark _)) (pss_one (ps_ret pe_str)) pss_nil)
      (pss_one (ps_ret (pe_join pe_str (pv 0)))), ?_⟩
    refine ⟨_, rfl, (by show 0 ≤ sizeLine; exact Nat.zero_le _), fun r nr => ?_⟩
    have s1 := same_new (o := .lst []) nr
    refine ⟨.list (xs.map PyData.str), .list [], .lst (SqL.of (s1 _ _ hp)) (dpAll_strs xs), .lst (SqL.of upd_same) .nil, shaped_list (fun d hd => ?_), shaped_nil, _, rfl, ?_⟩
    · obtain ⟨x, hxm, rfl⟩ := List.mem_map.mp hd
      exact ⟨by simp only [PyData.canLay0]; exact okS_ok (hx x hxm).2, by simp [PyData.depth]⟩
    rw [eqv_nil]
    unfold listS at q
    cases xs with
    | nil => exact iteT (q _ s1)
    | cons x r =>
      refine iteF ⟨⟨_, rfl⟩, _, rfl, _, _, x :: r, rfl, rfl, .inl (SqL.of (s1 _ _ hp)), ?_, q _ s1⟩
      have h1 := sum_len (x :: r) fun y hy => (hx y hy).1
      have h2 : (x :: r).length * (Str.ofString " ").length = (x :: r).length * 1 := rfl
      rw [h2]
      omega
theorem scLtText : FnScope ["letter"] ["letter"] (defScope s_letter_text) := ⟨rfl, rfl, rfl, by decide +kernel, rfl, by decide +kernel, by decide +kernel⟩
theorem ok_letter_text (T : Tx K mg) : Ok P w K mg base 1 d_letter_text ["letter"] spLtText := by
  refine Ok.mk T 62 rfl ⟨rfl, rfl⟩ scLtText (fun vs H Q E h => ?_) (fun _ _ _ _ _ _ us hl => match us, hl with | [_], _ => rfl) (fun cdv A outer s H vs Q E hr h => ?_)
  · obtain ⟨v, e, rfl, _⟩ := h
    rfl
  · obtain ⟨v, e, rfl, dv, h1, h2, h3, q⟩ := h
    obtain ⟨b, va, rfl, hb, _⟩ := dLtE dv
    refine ⟨_, pss_one (ps_ret (pe_op op_add_str (pe_op op_add_str (pe_op op_add_str (pe_op op_add_str (pe_op op_add_str (pe_op op_add_str (pe_callTy call_str_int rfl T.f_str PyProof.Rows.boot_str (pa_cons (pe_ix ix_tup (pv 0) pe_int (fun _ _ => rfl)) pa_nil)) pe_str)
      (pe_ix ix_tup (pv 0) pe_int (fun _ _ => rfl))) pe_str) (pe_callTy call_str_int rfl T.f_str PyProof.Rows.boot_str (pa_cons (pe_ix ix_tup (pv 0) pe_int (fun _ _ => rfl)) pa_nil))) pe_str) (pe_callTy call_str_int rfl T.f_str PyProof.Rows.boot_str (pa_cons (pe_ix ix_tup (pv 0) pe_int (fun _ _ => rfl)) pa_nil)))), ?_⟩
    have a1 := (numS_len h1).2
    have a2 := (numS_len h2).2
    have a3 := (numS_len h3).2
    have a4 := kindS_len e.2.ab
    have c : (":" : Str).length = 1 := rfl
    refine ⟨_, rfl, _, _, _, _, rfl, rfl, SqT.of hb, atI_nat (j := 0) rfl, e.1, rfl, numS_log h1, _, _, rfl, rfl, ?_, _, rfl, _, _, _, _, rfl, rfl, SqT.of hb, atI_nat (j := 1) rfl, _, _, rfl, rfl, ?_, _, _, rfl, rfl, ?_, _, rfl, _, _, _, _, rfl, rfl, SqT.of hb, atI_nat (j := 2) rfl, e.2.sender, rfl, numS_log h2, _, _, rfl, rfl, ?_, _, _, rfl, rfl, ?_,
      _, rfl, _, _, _, _, rfl, rfl, SqT.of hb, atI_nat (j := 3) rfl, e.2.goal, rfl, numS_log h3, _, _, rfl, rfl, ?_, q⟩
    all_goals
      first
      | (show (numS e.1).length + (":" : Str).length ≤ sizeLine; rw [sizeLine_eq]; omega)
      | (show (numS e.1 ++ (":" : Str)).length + (kindS e.2.ab).length ≤ sizeLine; rw [sizeLine_eq, len_app]; omega)
      | (show (numS e.1 ++ (":" : Str) ++ kindS e.2.ab).length + (":" : Str).length ≤ sizeLine; rw [sizeLine_eq, len_app, len_app]; omega)
      | (show (numS e.1 ++ (":" : Str) ++ kindS e.2.ab ++ (":" : Str)).length + (numS e.2.sender).length ≤ sizeLine; rw [sizeLine_eq, len_app, len_app, len_app]; omega)
      | (show (numS e.1 ++ (":" : Str) ++ kindS e.2.ab ++ (":" : Str) ++ numS e.2.sender).length + (":" : Str).length ≤ sizeLine; rw [sizeLine_eq, len_app, len_app, len_app, len_app]; omega)
      | (show (numS e.1 ++ (":" : Str) ++ kindS e.2.ab ++ (":" : Str) ++ numS e.2.sender ++ (":" : Str)).length + (numS e.2.goal).length ≤ sizeLine; rw [sizeLine_eq, len_app, len_app, len_app, len_app, len_app]; omega)
end
end Fh

set_option Elab.async false
set_option linter.all false
set_option maxRecDepth 100000
set_option maxHeartbeats 4000000
namespace Fh
open PySem PySem.Spec L2 FhR
open Fm (Th Hs StD Wd Er HG HB HSm Sts SZ Inq Lt Ab WG ArrOk)
/-! ### rows -/
inductive Row where
  | make (h : Int) | free (h : Int) (b : Th) | hold (h : Int) (a b : Th) | drop (h : Int) (a b : Th) | take (h : Int) (a b : Th) | send (h g : Int) (b : Th) | ask (h : Int) | clean (h : Int) | come (n : Int)
  | post | holds (a : Th) | hand (h : Int) | things (h : Int) | found (n : Int)
def rowW : Row → Str
  | .make _ => "make" | .free _ _ => "free" | .hold _ _ _ => "hold" | .drop _ _ _ => "drop" | .take _ _ _ => "take" | .send _ _ _ => "send" | .ask _ => "ask" | .clean _ => "clean" | .come _ => "come"
  | .post => "post" | .holds _ => "holds" | .hand _ => "hand" | .things _ => "things" | .found _ => "found"
def rowP : Row → List Pc
  | .make h => [.n h] | .free h b => [.n h, .t b] | .hold h a b => [.n h, .t a, .t b] | .drop h a b => [.n h, .t a, .t b] | .take h a b => [.n h, .t a, .t b] | .send h g b => [.n h, .n g, .t b] | .ask h => [.n h] | .clean h => [.n h] | .come n => [.n n]
  | .post => [] | .holds a => [.t a] | .hand h => [.n h] | .things h => [.n h] | .found n => [.n n]
def rowS (r : Row) : Str := rowJoin (rowW r) ((rowP r).map pcS)
def Row.ok (r : Row) : Prop := ∀ p ∈ rowP r, p.ok
theorem rowP_len (r : Row) : (rowP r).length ≤ 3 := by cases r <;> simp [rowP]
theorem rowW_free (r : Row) : 32 ∉ TL.tl (rowW r) := by
  cases r <;> (show 32 ∉ TL.tl (Str.ofString _); decide +kernel)
theorem rowS_split {r : Row} (h : r.ok) : Txt.split (rowS r) (" " : Str) = rowW r :: (rowP r).map pcS := by
  refine split_row fun p hp => ?_
  rcases List.mem_cons.mp hp with rfl | hp
  · exact rowW_free r
  · obtain ⟨x, hx, rfl⟩ := List.mem_map.mp hp
    exact pcS_free (h x hx)
theorem rowW_len (r : Row) : (rowW r).length ≤ 6 := by
  cases r <;> (show (Str.ofString _).length ≤ 6; decide +kernel)
theorem rowS_len {r : Row} (h : r.ok) : (rowS r).length ≤ 70 := by
  have h1 := rowJoin_len ((rowP r).map pcS) (rowW r) fun p hp => by
    obtain ⟨x, hx, rfl⟩ := List.mem_map.mp hp
    exact pcS_len (h x hx)
  have h2 := rowW_len r
  have h3 := rowP_len r
  rw [List.length_map] at h1
  exact Nat.le_trans (show (rowS r).length ≤ _ from h1) (by omega)
/-! ### answers -/
def ansD (M : Wd) (r : Except Er Wd) (x : Str) : Except Er (Wd × Str) := match r with | .ok M' => .ok (M', x) | .error e => .error e
def ansN (r : Except Er (Wd × List Int)) : Except Er (Wd × Str) := match r with | .ok (M', ns) => .ok (M', listS (ns.map numS)) | .error e => .error e
def holdsAns (st : StD) (a : Th) : Except Er Str := match st.things.find? fun e => decide (e.1 = a) with | some e => .ok (listS (e.2.2.map thS)) | none => .error .missing
def ansR (M : Wd) : Row → Except Er (Wd × Str)
  | .make h => (match M.make h with | .ok (M', t) => .ok (M', thS t) | .error e => .error e)
  | .free h b => ansD M (M.free h b) "ok"
  | .hold h a b => ansD M (M.hold h a b) "ok"
  | .drop h a b => ansD M (M.drop h a b) "ok"
  | .take h a b => ansD M (M.take h a b) "ok"
  | .send h g b => ansD M (M.send h g b) (numS (M.last + 1))
  | .ask h => ansD M (M.ask h) (numS ((M.asked.length : Int) + 1))
  | .clean h => ansN (M.clean h)
  | .come n => ansN (M.come n)
  | .post => .ok (M, listS (M.letters.map ltS))
  | .holds a => if M.is a.1 = true then (match holdsAns ((M.at a.1).state a.1) a with | .ok x => .ok (M, x) | .error e => .error e) else .error .noHouse
  | .hand h => if M.is h = true then .ok (M, listS (((M.at h).state h).hand.map thS)) else .error .noHouse
  | .things h => if M.is h = true then .ok (M, listS (((M.at h).state h).things.map fun e => thS e.1)) else .error .noHouse
  | .found n => (match M.inquiry n with | .ok ts => .ok (M, listS (ts.map thS)) | .error e => .error e)
/-- numbers are small enough to be told and read -/
structure WN (M : Wd) : Prop where
  hn : ∀ (j : Nat) S, M.hs[j]? = some S → (∀ t ∈ S.hand, Nt t) ∧ (∀ n ∈ Fm.keys S.holding, Nt ((j : Int), n)) ∧ (∀ e ∈ S.holding, ∀ t ∈ e.2, Nt t) ∧ Nt ((j : Int), S.made)
  l0 : 0 ≤ M.last
  l1 : M.last < 900000000
  ly : ∀ e ∈ M.lying, Nm e.1 ∧ Nm e.2.sender ∧ Nm e.2.goal
  dn : ∀ e ∈ M.done, e.2.length ≤ 20000 ∧ ∀ t ∈ e.2, Nt t
/-- a row that may come -/
structure RowOk (M : Wd) (r : Row) : Prop where
  wg : WG M
  wn : WN M
  ok : r.ok
  arr : ∀ n, r = .come n → ∀ l, Fm.dget M.lying n = some l → ArrOk M n l
theorem st_hand {i : Int} {S : Hs} {t : Th} (h : t ∈ (S.state i).hand) : t ∈ S.hand := Fm.mem_sortT.mp h
theorem st_things {i : Int} {S : Hs} {e : Th × Int × List Th} (h : e ∈ (S.state i).things) : ∃ n ∈ Fm.keys S.holding, e = stThing i S n := by
  obtain ⟨n, hn, rfl⟩ := List.mem_map.mp h
  exact ⟨n, Fm.mem_sortI.mp hn, rfl⟩
theorem st_thing_n {M : Wd} (wn : WN M) {i : Int} (e : M.is i = true) {x : Th × Int × List Th} (h : x ∈ ((M.at i).state i).things) : Nt x.1 ∧ ∀ t ∈ x.2.2, Nt t := by
  obtain ⟨n, hn, rfl⟩ := st_things h
  obtain ⟨h1, h2, h3, h4⟩ := wn.hn _ _ (Fm.at_of e)
  have hi := (Fm.is_iff.mp e).1
  have := h2 n hn
  rw [Int.toNat_of_nonneg hi] at this
  refine ⟨this, fun t ht => ?_⟩
  have ht' : t ∈ (Fm.dget (M.at i).holding n).getD [] := Fm.mem_sortT.mp ht
  obtain ⟨ts, ets⟩ := Fm.dget_some hn
  rw [ets] at ht'
  exact h3 _ (Fm.dget_mem ets) t ht'
theorem nums_n {a : Int} {k : Nat} (h0 : 0 ≤ a) (h1 : a < 900000000) (hk : k ≤ 100000) : ∀ n ∈ Fm.nums a k, Nm n := by
  intro n hn
  unfold Fm.nums at hn
  obtain ⟨j, hj, rfl⟩ := List.mem_map.mp hn
  have := List.mem_range.mp hj
  exact ⟨by omega, by omega⟩
end Fh

set_option Elab.async false
set_option linter.all false
set_option maxRecDepth 100000
set_option maxHeartbeats 4000000
namespace Fh
open PySem PySem.Spec L2 FhR
open Fm (Th Hs StD Wd Er HG HB HSm Sts SZ Inq Lt Ab WG ArrOk)
abbrev dC (K : PySem.W.Frag) : Addr := He.ga K "Desk"
def df (a : Addr) : List (Str × V) := [("world", .ref a)]
theorem df_world {a : Addr} : (df a).lookup ("world" : Str) = some (V.ref a) := by kernel_rfl
theorem df_say {a : Addr} : (df a).lookup ("say" : Str) = none := by kernel_rfl
theorem df_deed {a : Addr} : (df a).lookup ("deed" : Str) = none := by kernel_rfl
theorem df_by_letters {a : Addr} : (df a).lookup ("by_letters" : Str) = none := by kernel_rfl
theorem df_told {a : Addr} : (df a).lookup ("told" : Str) = none := by kernel_rfl
theorem df_holds {a : Addr} : (df a).lookup ("holds" : Str) = none := by kernel_rfl
/-- what a row leaves -/
def RetR (K : PySem.W.Frag) (wid : Nat) (H : Hp) (ow : Ow) (a : Addr) (r : Except Er (Wd × Str)) (Q : VK) (E : XK) : Prop := match r with
  | .ok (M', x) => ∀ H' ow', Frm (fun l => l.1 = wid) H ow H' ow' → WAt K wid H' ow' a M' → Q (.str x) H'
  | .error e => ∀ H', Same H H' → E (exn K e) none H'
/-- a desk asked with a row's word and pieces -/
def spDeskP (K : PySem.W.Frag) (k : Row → Bool) : Sp := fun vs H Q E => ∃ (wid : Nat) (ow : Ow) (d ddx a p : Addr) (M : Wd) (r : Row), vs = [.ref d, .str (rowW r), .ref p] ∧ H d = some (.ins (dC K) ddx (df a)) ∧ H p = some (.lst ((((rowP r)).map pcS).map V.str)) ∧ k r = true ∧
  WAt K wid H ow a M ∧ Clean H ow ∧ RowOk M r ∧ RetR K wid H ow a (ansR M r) Q E
def isDeed : Row → Bool
  | .make _ => true | .free _ _ => true | .hold _ _ _ => true | .drop _ _ _ => true | .take _ _ _ => true | _ => false
def isLett : Row → Bool
  | .send _ _ _ => true | .ask _ => true | .clean _ => true | .come _ => true | _ => false
def isTold : Row → Bool
  | .post => true | .holds _ => true | .hand _ => true | .things _ => true | .found _ => true | _ => false
section
variable {P : Program} {w : World} {K : PySem.W.Frag} {mg : Str → Option Value} {base : Heap}
theorem kindsS_1 (i : Int) : V.str "n" = V.str (kindsS [.n i]) := by kernel_rfl
theorem one_pc {H : Hp} {ws : List V} {x : Pc} (h : DVs H ws ([x].map pcD)) : ∃ v, ws = [v] ∧ DV H v (pcD x) := by
  obtain ⟨v, r, rfl, d, h⟩ := h.consE
  cases h.nilE
  exact ⟨v, rfl, d⟩
theorem two_pc {H : Hp} {ws : List V} {x y : Pc} (h : DVs H ws ([x, y].map pcD)) : ∃ v u, ws = [v, u] ∧ DV H v (pcD x) ∧ DV H u (pcD y) := by
  obtain ⟨v, r, rfl, d, h⟩ := h.consE
  obtain ⟨u, rfl, e⟩ := one_pc h
  exact ⟨v, u, rfl, d, e⟩
theorem three_pc {H : Hp} {ws : List V} {x y z : Pc} (h : DVs H ws ([x, y, z].map pcD)) : ∃ v u t, ws = [v, u, t] ∧ DV H v (pcD x) ∧ DV H u (pcD y) ∧ DV H t (pcD z) := by
  obtain ⟨v, r, rfl, d, h⟩ := h.consE
  obtain ⟨u, t, rfl, e⟩ := two_pc h
  exact ⟨v, u, t, rfl, d, e⟩
theorem readE {p : Addr} {r : Row} {z : Str} (hz : z = kindsS (rowP r)) : [V.ref p, V.str z] = [V.ref p, V.str (kindsS (rowP r))] := by rw [hz]
theorem rowP10 (r : Row) : (rowP r).length ≤ 10 := by have := rowP_len r; omega
theorem WAt.same {wid : Nat} {H H' : Hp} {ow : Ow} {a : Addr} {M : Wd} (h : WAt K wid H ow a M) (s : Same H H') : WAt K wid H' ow a M := by
  obtain ⟨x, h⟩ := h
  exact ⟨x, h.same s⟩
theorem cleanS {H H' : Hp} {ow : Ow} (c : Clean H ow) (s : Same H H') : Clean H' ow := (Frm.of_same (P := fun _ => False) s c).cl c
theorem frmS {wid : Nat} {H H1 H2 : Hp} {ow ow2 : Ow} (c : Clean H ow) (s : Same H H1) (f : Frm (fun l => l.1 = wid) H1 ow H2 ow2) : Frm (fun l => l.1 = wid) H ow H2 ow2 := (Frm.of_same s c).trans f
theorem make_n {M : Wd} (wn : WN M) {h : Int} {M' : Wd} {t : Th} (e : M.make h = .ok (M', t)) : Nt t := by
  unfold Wd.make at e
  split at e
  · rename_i hi
    cases e
    have := (wn.hn _ _ (Fm.at_of hi)).2.2.2
    rw [Int.toNat_of_nonneg (Fm.is_iff.mp hi).1] at this
    exact this
  · cases e
theorem okAt {r : Row} (h : r.ok) {x : Pc} (hx : x ∈ rowP r) : x.ok := h x hx
theorem scDeed : FnScope ["self", "word", "pieces", "h", "b", "a"] ["self", "word", "pieces"] (defScope sD_deed) := ⟨rfl, rfl, rfl, by decide +kernel, rfl, by decide +kernel, by decide +kernel⟩
theorem ok_deed (T : Tx K mg) : Ok P w K mg base 5 dD_deed ["self", "word", "pieces"] (spDeskP K isDeed) := by
  obtain ⟨f1, F1, b1, k1⟩ := ok_read_by (P := P) (w := w) (base := base) T
  obtain ⟨f2, F2, b2, k2⟩ := ok_thing_text (P := P) (w := w) (base := base) T
  obtain ⟨f3, F3, b3, k3⟩ := ok_wmake (P := P) (w := w) (base := base) T
  obtain ⟨f4, F4, b4, k4⟩ := ok_wfree (P := P) (w := w) (base := base) T
  obtain ⟨f5, F5, b5, k5⟩ := ok_whold (P := P) (w := w) (base := base) T
  obtain ⟨f6, F6, b6, k6⟩ := ok_wdrop (P := P) (w := w) (base := base) T
  obtain ⟨f7, F7, b7, k7⟩ := ok_wtake (P := P) (w := w) (base := base) T
  refine Ok.mk T 65 rfl ⟨rfl, rfl⟩ scDeed (fun vs H Q E h => ?_) (fun _ _ _ _ _ _ us hl => match us, hl with | [_, _, _], _ => rfl) (fun cdv A outer s H vs Q E hr h => ?_)
  · obtain ⟨wid, ow, d, ddx, a, p, M, r, rfl, _⟩ := h
    rfl
  · obtain ⟨wid, ow, d, ddx, a, p, M, r, rfl, hd, hp, hk, hw, hcl, hro, q⟩ := h
    have hr1 := hr.mono (show 1 ≤ 4 by decide)
    have hr2 := hr.mono (show 2 ≤ 4 by decide)
    have hr3 := hr.mono (show 3 ≤ 4 by decide)
    have rb := fun (X : Cx) => True
    refine ⟨_, pss_cons (ps_if (pt_cmpR op_eq (pv 1) pe_str (nomark _))
        (pss_one (ps_ret (pe_call F2 hr1 rfl T.g_thing_text k2 b2 .nil passL (pa_cons (pe_meth (pe_fld (pv 0) rfl) T.c_World T.m_World_make F3 hr2 b3 .nil (passC (takes_of rfl rfl rfl rfl)) (pa_cons (pe_ix ix_list (pe_call F1 hr3 rfl T.g_read_by k1 b1 .nil passL (pa_cons (pv 2) (pa_cons pe_str pa_nil))) pe_int (fun _ _ => rfl)) pa_nil)) pa_nil)))) pss_nil)
      (pss_cons (ps_if (pt_cmpR op_eq (pv 1) pe_str (nomark _))
        (pss_cons (ps_asg (pe_call F1 hr3 rfl T.g_read_by k1 b1 .nil passL (pa_cons (pv 2) (pa_cons pe_str pa_nil))) (pg_lst rfl (pgs_cons (pg_name (i := 3) scDeed.nd rfl (.inl rfl)) (pgs_cons (pg_name (i := 4) scDeed.nd rfl (.inl rfl)) pgs_nil))))
        (pss_cons (ps_expr (pe_meth (pe_fld (pv 0) rfl) T.c_World T.m_World_free F4 hr3 b4 .nil (passC (takes_of rfl rfl rfl rfl)) (pa_cons (pv 3) (pa_cons (pv 4) pa_nil))))
        (pss_one (ps_ret pe_str)))) pss_nil)
      (pss_cons (ps_asg (pe_call F1 hr3 rfl T.g_read_by k1 b1 .nil passL (pa_cons (pv 2) (pa_cons pe_str pa_nil))) (pg_lst rfl (pgs_cons (pg_name (i := 3) scDeed.nd rfl (.inl rfl)) (pgs_cons (pg_name (i := 5) scDeed.nd rfl (.inl rfl)) (pgs_cons (pg_name (i := 4) scDeed.nd rfl (.inl rfl)) pgs_nil)))))
      (pss_cons (ps_if (pt_cmpR op_eq (pv 1) pe_str (nomark _)) (pss_one (ps_expr (pe_meth (pe_fld (pv 0) rfl) T.c_World T.m_World_hold F5 hr b5 .nil (passC (takes_of rfl rfl rfl rfl)) (pa_cons (pv 3) (pa_cons (pv 5) (pa_cons (pv 4) pa_nil))))))
        (pss_one (ps_if (pt_cmpR op_eq (pv 1) pe_str (nomark _)) (pss_one (ps_expr (pe_meth (pe_fld (pv 0) rfl) T.c_World T.m_World_drop F6 hr b6 .nil (passC (takes_of rfl rfl rfl rfl)) (pa_cons (pv 3) (pa_cons (pv 5) (pa_cons (pv 4) pa_nil))))))
          (pss_one (ps_expr (pe_meth (pe_fld (pv 0) rfl) T.c_World T.m_World_take F7 hr b7 .nil (passC (takes_of rfl rfl rfl rfl)) (pa_cons (pv 3) (pa_cons (pv 5) (pa_cons (pv 4) pa_nil)))))))))
      (pss_one (ps_ret pe_str))))), ?_⟩
    obtain ⟨x0, hw0⟩ := id hw
    have stepE : ∀ {e : Er}, ansR M r = .error e → ∀ H', Same H H' → E (exn K e) none H' := fun {e} h => by
      unfold RetR at q
      rw [h] at q
      exact q
    have stepO : ∀ {M' : Wd} {x : Str}, ansR M r = .ok (M', x) → ∀ H' ow', Frm (fun l => l.1 = wid) H ow H' ow' → WAt K wid H' ow' a M' → Q (.str x) H' := fun {M' x} h => by
      unfold RetR at q
      rw [h] at q
      exact q
    cases r with
    | make h =>
      refine ⟨_, rfl, rfl, _, rfl, iteT' (by kernel_rfl) ?_⟩
      refine ⟨_, rfl, _, _, _, _, _, rfl, hd, T.c_Desk, T.n_Desk_world, df_world, _, _, _, rfl, hw0.ob, wf_make, _, rfl, p, rowP _, readE (by kernel_rfl), hp, rowP10 _, hro.ok, fun H1 q1 ws sm _ er dws => ?_⟩
      obtain ⟨v, rfl, dv⟩ := one_pc dws
      cases DV.intE dv
      refine ⟨_, _, _, _, rfl, rfl, SqL.of er, atI_nat (j := 0) rfl, wid, ow, a, M, h, rfl, hw.same sm, cleanS hcl sm, hro.wg, ?_⟩
      cases e : M.make h with
      | error er => exact stepE (by simp only [ansR, e]) H1 sm
      | ok r1 =>
        obtain ⟨M', t⟩ := r1
        intro H2 ow2 v f2 w2 d2
        exact ⟨v, t, rfl, d2, make_n hro.wn e, stepO (by simp only [ansR, e]) H2 ow2 (frmS hcl sm f2) w2⟩
    | free h b =>
      refine ⟨_, rfl, rfl, _, rfl, iteF' (by kernel_rfl) ⟨_, rfl, rfl, _, rfl, iteT' (by kernel_rfl) ?_⟩⟩
      refine ⟨_, rfl, p, rowP _, readE (by kernel_rfl), hp, rowP10 _, hro.ok, fun H1 q1 ws sm _ er dws => ?_⟩
      obtain ⟨v, u, rfl, dv, du⟩ := two_pc dws
      cases DV.intE dv
      refine ⟨q1, _, rfl, SqL.of er, rfl, _, _, rfl, _, _, rfl, rfl, ?_⟩
      refine ⟨_, rfl, _, _, _, _, _, rfl, sm _ _ hd, T.c_Desk, T.n_Desk_world, df_world, _, _, _, rfl, sm _ _ hw0.ob, wf_free, _, rfl, _, rfl, wid, ow, a, M, h, u, b, rfl, hw.same sm, cleanS hcl sm, hro.wg, du, ?_⟩
      unfold ResW
      cases e : M.free h b with
      | error er => exact stepE (by show ansD M (M.free h b) _ = _; rw [e]; rfl) H1 sm
      | ok M' => exact fun H2 ow2 f2 w2 => stepO (by show ansD M (M.free h b) _ = _; rw [e]; rfl) H2 ow2 (frmS hcl sm f2) w2
    | hold h x y =>
      refine ⟨_, rfl, rfl, _, rfl, iteF' (by kernel_rfl) ⟨_, rfl, rfl, _, rfl, iteF' (by kernel_rfl) ?_⟩⟩
      refine ⟨_, rfl, p, rowP _, readE (by kernel_rfl), hp, rowP10 _, hro.ok, fun H1 q1 ws sm _ er dws => ?_⟩
      obtain ⟨v, u, t, rfl, dv, du, dt⟩ := three_pc dws
      cases DV.intE dv
      refine ⟨q1, _, rfl, SqL.of er, rfl, _, _, rfl, _, _, rfl, _, _, rfl, rfl, ?_⟩
      refine ⟨_, rfl, rfl, _, rfl, iteT' (by kernel_rfl) ?_⟩
      refine ⟨_, rfl, _, _, _, _, _, rfl, sm _ _ hd, T.c_Desk, T.n_Desk_world, df_world, _, _, _, rfl, sm _ _ hw0.ob, wf_hold, _, rfl, _, rfl, _, rfl, wid, ow, a, M, h, u, t, x, y, rfl, hw.same sm, cleanS hcl sm, hro.wg, du, dt, ?_⟩
      unfold ResW
      cases e : M.hold h x y with
      | error er => exact stepE (by show ansD M (M.hold h x y) _ = _; rw [e]; rfl) H1 sm
      | ok M' => exact fun H2 ow2 f2 w2 => stepO (by show ansD M (M.hold h x y) _ = _; rw [e]; rfl) H2 ow2 (frmS hcl sm f2) w2
    | drop h x y =>
      refine ⟨_, rfl, rfl, _, rfl, iteF' (by kernel_rfl) ⟨_, rfl, rfl, _, rfl, iteF' (by kernel_rfl) ?_⟩⟩
      refine ⟨_, rfl, p, rowP _, readE (by kernel_rfl), hp, rowP10 _, hro.ok, fun H1 q1 ws sm _ er dws => ?_⟩
      obtain ⟨v, u, t, rfl, dv, du, dt⟩ := three_pc dws
      cases DV.intE dv
      refine ⟨q1, _, rfl, SqL.of er, rfl, _, _, rfl, _, _, rfl, _, _, rfl, rfl, ?_⟩
      refine ⟨_, rfl, rfl, _, rfl, iteF' (by kernel_rfl) ⟨_, rfl, rfl, _, rfl, iteT' (by kernel_rfl) ?_⟩⟩
      refine ⟨_, rfl, _, _, _, _, _, rfl, sm _ _ hd, T.c_Desk, T.n_Desk_world, df_world, _, _, _, rfl, sm _ _ hw0.ob, wf_drop, _, rfl, _, rfl, _, rfl, wid, ow, a, M, h, u, t, x, y, rfl, hw.same sm, cleanS hcl sm, hro.wg, du, dt, ?_⟩
      unfold ResW
      cases e : M.drop h x y with
      | error er => exact stepE (by show ansD M (M.drop h x y) _ = _; rw [e]; rfl) H1 sm
      | ok M' => exact fun H2 ow2 f2 w2 => stepO (by show ansD M (M.drop h x y) _ = _; rw [e]; rfl) H2 ow2 (frmS hcl sm f2) w2
    | take h x y =>
      refine ⟨_, rfl, rfl, _, rfl, iteF' (by kernel_rfl) ⟨_, rfl, rfl, _, rfl, iteF' (by kernel_rfl) ?_⟩⟩
      refine ⟨_, rfl, p, rowP _, readE (by kernel_rfl), hp, rowP10 _, hro.ok, fun H1 q1 ws sm _ er dws => ?_⟩
      obtain ⟨v, u, t, rfl, dv, du, dt⟩ := three_pc dws
      cases DV.intE dv
      refine ⟨q1, _, rfl, SqL.of er, rfl, _, _, rfl, _, _, rfl, _, _, rfl, rfl, ?_⟩
      refine ⟨_, rfl, rfl, _, rfl, iteF' (by kernel_rfl) ⟨_, rfl, rfl, _, rfl, iteF' (by kernel_rfl) ?_⟩⟩
      refine ⟨_, rfl, _, _, _, _, _, rfl, sm _ _ hd, T.c_Desk, T.n_Desk_world, df_world, _, _, _, rfl, sm _ _ hw0.ob, wf_take, _, rfl, _, rfl, _, rfl, wid, ow, a, M, h, u, t, x, y, rfl, hw.same sm, cleanS hcl sm, hro.wg, du, dt, ?_⟩
      unfold ResW
      cases e : M.take h x y with
      | error er => exact stepE (by show ansD M (M.take h x y) _ = _; rw [e]; rfl) H1 sm
      | ok M' => exact fun H2 ow2 f2 w2 => stepO (by show ansD M (M.take h x y) _ = _; rw [e]; rfl) H2 ow2 (frmS hcl sm f2) w2
    | send _ _ _ => exact (Bool.false_ne_true hk).elim
    | ask _ => exact (Bool.false_ne_true hk).elim
    | clean _ => exact (Bool.false_ne_true hk).elim
    | come _ => exact (Bool.false_ne_true hk).elim
    | post => exact (Bool.false_ne_true hk).elim
    | holds _ => exact (Bool.false_ne_true hk).elim
    | hand _ => exact (Bool.false_ne_true hk).elim
    | things _ => exact (Bool.false_ne_true hk).elim
    | found _ => exact (Bool.false_ne_true hk).elim
end
end Fh

set_option Elab.async false
set_option linter.all false
set_option maxRecDepth 100000
set_option maxHeartbeats 4000000
namespace Fh
open PySem PySem.Spec L2 FhR
open Fm (Th Hs StD Wd Er HG HB HSm Sts SZ Inq Lt Ab WG ArrOk)
/-- a comprehension that makes texts of data -/
theorem lc_map {J : It} {n : Nat} {G : Hp → Prop} {vs : List V} {H1 : Hp} {D : Addr} {σ : L2.St} {own : List Nat} {te : TE} {i : Nat} {α : Type} (items : List α) (dat : α → PyData) (f : α → Str) (w : Walk J n G (YAt vs)) (hn : n = vs.length) (nD : H1 D = none)
    (hd : DVs H1 vs (items.map dat)) (hz : items.length ≤ 100000) (hG : ∀ acc, G (upd H1 D (.lst acc))) (hw : ∀ v, wipe ((wipe σ own).set i (some v)) own = wipe σ own)
    (ht : ∀ x ∈ items, ∀ v H Q, DV H v (dat x) → Q (.str (f x)) H → te ((wipe σ own).set i (some v)) H Q) {Qd : Hp → Prop} (hq : Qd (upd H1 D (.lst ((items.map f).map V.str)))) :
    ∃ W : Nat → Nat → Hp → Prop, (∃ m, W 0 m (upd H1 D (.lst []))) ∧ ∀ k m H, W k m H →
      (J.stop k H ∧ Qd H) ∨ (J.go k H ∧ ∃ Nx : Hp → Prop, (∀ H', Nx H' → ∃ m', m' < m ∧ W (k + 1) m' H') ∧ ∀ x H', J.yld k H x H' → gName i x (wipe σ own) H' fun σ2 H2 => wipe σ2 own = wipe σ own ∧ tYes σ2 H2 fun b H3 =>
        if b = true then te σ2 H3 fun y H4 => ∃ acc, H4 D = some (.lst acc) ∧ acc.length < sizeLine ∧ Nx (upd H4 D (.lst (acc ++ [y]))) else Nx H3) := by
  have hl : vs.length = items.length := by rw [hd.length]; exact List.length_map ..
  refine lc_it (g := gName i) (tt := tYes) w (fun j H' => H' = upd H1 D (.lst (((items.take j).map f).map V.str))) rfl (fun j H' _ z => by rw [z]; exact hG _) ?_ ?_
  · rintro j v H5 H4 hj rfl ⟨rfl, hv⟩
    obtain ⟨d, hd1, hdv⟩ := hd.get hv
    obtain ⟨x, hx, rfl⟩ := map_at hd1
    have et := take_succ_at hx
    refine ⟨hw v, ?_⟩
    show te ((wipe σ own).set i (some v)) _ _
    refine ht x (List.mem_of_getElem? hx) v _ _ (hdv.mono (Same.ts (same_new nD))) ⟨_, upd_same, ?_, ?_⟩
    · rw [List.length_map, List.length_map, sizeLine_eq]
      have := List.length_take_le' j items
      omega
    · rw [upd_upd, et, List.map_append, List.map_append]
      rfl
  · rintro H4 rfl
    rw [hn, hl, List.take_length]
    exact hq
abbrev rStr : List V → Hp → VK → Prop := fun xs H Q => ∃ i, xs = [.int i] ∧ i.natAbs.log2 < 1920 ∧ Q (.str (toString i)) H
theorem dvs_ints {H : Hp} : ∀ ns : List Int, DVs H (ns.map V.int) (ns.map PyData.int)
  | [] => .nil
  | _ :: ns => .cons (.int _) (dvs_ints ns)
section
variable {P : Program} {w : World} {K : PySem.W.Frag} {mg : Str → Option Value} {base : Heap}
theorem scByLetters : FnScope ["self", "word", "pieces", "h", "g", "b", "n", "number"] ["self", "word", "pieces"] (defScope sD_by_letters) := ⟨rfl, rfl, rfl, by decide +kernel, rfl, by decide +kernel, by decide +kernel⟩
theorem back_n {M : Wd} (wn : WN M) {k : Nat} (hk : k ≤ 100000) : ∀ n ∈ Fm.nums M.last k, Nm n := nums_n wn.l0 wn.l1 hk
theorem nums_len (a : Int) (k : Nat) : (Fm.nums a k).length = k := by unfold Fm.nums; rw [List.length_map, List.length_range]
theorem back_len {S : Hs} (h : HB S) : S.back.length ≤ 1000 := by
  have h1 := List.length_filterMap_le S.backT (Fm.sortT (Fm.keys S.recs))
  have h2 := Fm.length_sortT (Fm.keys S.recs)
  have h3 : (Fm.keys S.recs).length = S.recs.length := List.length_map ..
  have h4 := h.hr
  rw [Fm.back_eq]
  omega
theorem clean_n {M : Wd} (wg : WG M) (wn : WN M) {h : Int} {M' : Wd} {ns : List Int} (e : M.clean h = .ok (M', ns)) : ns.length ≤ 1000 ∧ ∀ n ∈ ns, Nm n := by
  unfold Wd.clean at e
  split at e
  · rename_i hi
    cases e
    have hb := back_len ((wg.hs _ _ (Fm.at_of hi)).2.1.only fun n => decide (n ∈ (M.at h).kept h))
    have hb : ((M.at h).swept h).back.length ≤ 1000 := hb
    exact ⟨by rw [nums_len]; exact hb, back_n wn (by omega)⟩
  · cases e
theorem heard_le {M : Wd} (wg : WG M) (n s g q t : Int) : (M.heard n s g q t).2 ≤ 4 := by
  unfold Wd.heard
  have := wg.hn
  split
  · exact Nat.zero_le _
  · dsimp only
    split
    · split
      · exact this
      · exact Nat.zero_le _
    · split
      · exact this
      · exact Nat.zero_le _
theorem come_n {M : Wd} (wg : WG M) (wn : WN M) {n : Int} (ha : ∀ l, Fm.dget M.lying n = some l → ArrOk M n l) {M' : Wd} {ns : List Int} (e : M.come n = .ok (M', ns)) : ns.length ≤ 1000 ∧ ∀ n ∈ ns, Nm n := by
  unfold Wd.come at e
  cases el : Fm.dget M.lying n with
  | none => rw [el] at e; cases e
  | some l =>
    rw [el] at e
    cases e
    have hg1 : WG { M with lying := Fm.ddrop M.lying n } := ⟨wg.hs, wg.hn, Nat.le_trans Fm.dget_ddrop_sub wg.ly, wg.as_, wg.an, wg.dn, wg.qs⟩
    have hk : (({ M with lying := Fm.ddrop M.lying n } : Wd).arrive n l).2 ≤ 1000 := by
      obtain ⟨hgo, _⟩ := ha l el
      obtain ⟨snd, gl, ab⟩ := l
      cases ab with
      | ask q t => exact (by decide : (1 : Nat) ≤ 1000)
      | ans q t => exact Nat.le_trans (heard_le hg1 n snd gl q t) (by decide)
      | pass b to =>
        show (Wd.passedOn _ _ _ _ _).2 ≤ 1000
        unfold Wd.passedOn
        dsimp only
        split
        · exact (by decide : (1 : Nat) ≤ 1000)
        · exact (by decide : (2 : Nat) ≤ 1000)
      | lets ts =>
        have hh := back_len ((wg.hs _ _ (Fm.at_of hgo)).2.1.only fun n => decide (n ∉ ts.map (fun t : Th => t.2)))
        exact hh
      | hold b w => exact Nat.zero_le _
      | more b w => exact Nat.zero_le _
      | back b w => exact Nat.zero_le _
    exact ⟨by rw [nums_len]; exact hk, back_n wn (by omega)⟩
theorem numS_str {i : Int} : (Str.ofString (toString i)) = numS i := rfl
theorem ok_by_letters (T : Tx K mg) : Ok P w K mg base 7 dD_by_letters ["self", "word", "pieces"] (spDeskP K isLett) := by
  obtain ⟨f1, F1, b1, k1⟩ := ok_read_by (P := P) (w := w) (base := base) T
  obtain ⟨f2, F2, b2, k2⟩ := ok_send (P := P) (w := w) (base := base) T
  obtain ⟨f3, F3, b3, k3⟩ := ok_ask (P := P) (w := w) (base := base) T
  obtain ⟨f4, F4, b4, k4⟩ := ok_wclean (P := P) (w := w) (base := base) T
  obtain ⟨f5, F5, b5, k5⟩ := ok_deliver (P := P) (w := w) (base := base) T
  obtain ⟨f6, F6, b6, k6⟩ := ok_listed (P := P) (w := w) (base := base) T
  refine Ok.mk T 66 rfl ⟨rfl, rfl⟩ scByLetters (fun vs H Q E h => ?_) (fun _ _ _ _ _ _ us hl => match us, hl with | [_, _, _], _ => rfl) (fun cdv A outer s H vs Q E hr h => ?_)
  · obtain ⟨wid, ow, d, ddx, a, p, M, r, rfl, _⟩ := h
    rfl
  · obtain ⟨wid, ow, d, ddx, a, p, M, r, rfl, hd, hp, hk, hw, hcl, hro, q⟩ := h
    have hr1 := hr.mono (show 1 ≤ 6 by decide)
    have hr3 := hr.mono (show 3 ≤ 6 by decide)
    refine ⟨_, pss_cons (ps_if (pt_cmpR op_eq (pv 1) pe_str (nomark _))
        (pss_cons (ps_asg (pe_call F1 hr3 rfl T.g_read_by k1 b1 .nil passL (pa_cons (pv 2) (pa_cons pe_str pa_nil))) (pg_lst rfl (pgs_cons (pg_name (i := 3) scByLetters.nd rfl (.inl rfl)) (pgs_cons (pg_name (i := 4) scByLetters.nd rfl (.inl rfl)) (pgs_cons (pg_name (i := 5) scByLetters.nd rfl (.inl rfl)) pgs_nil)))))
        (pss_one (ps_ret (pe_callTy call_str_int rfl T.f_str PyProof.Rows.boot_str (pa_cons (pe_meth (pe_fld (pv 0) rfl) T.c_World T.m_World_send F2 hr3 b2 .nil (passC (takes_of rfl rfl rfl rfl)) (pa_cons (pv 3) (pa_cons (pv 4) (pa_cons (pv 5) pa_nil)))) pa_nil))))) pss_nil)
      (pss_cons (ps_set (i := 6) scByLetters.nd rfl (.inl rfl) (pe_ix ix_list (pe_call F1 hr3 rfl T.g_read_by k1 b1 .nil passL (pa_cons (pv 2) (pa_cons pe_str pa_nil))) pe_int (fun _ _ => rfl)))
      (pss_cons (ps_if (pt_cmpR op_eq (pv 1) pe_str (nomark _))
        (pss_one (ps_ret (pe_callTy call_str_int rfl T.f_str PyProof.Rows.boot_str (pa_cons (pe_meth (pe_fld (pv 0) rfl) T.c_World T.m_World_ask F3 hr3 b3 .nil (passC (takes_of rfl rfl rfl rfl)) (pa_cons (pv 6) pa_nil)) pa_nil)))) pss_nil)
      (pss_cons (ps_if (pt_cmpR op_eq (pv 1) pe_str (nomark _))
        (pss_one (ps_ret (pe_call F6 hr1 rfl T.g_listed k6 b6 .nil passL (pa_cons (pe_lc (own := [("number", 7)]) (g := gName 7) (tt := tYes) (te := tCB rStr (tCons (tVar 7) tNil)) rfl scByLetters.nd (pi_list (pe_meth (pe_fld (pv 0) rfl) T.c_World T.m_World_clean F4 hr3 b4 .nil (passC (takes_of rfl rfl rfl rfl)) (pa_cons (pv 6) pa_nil)))
          (blkOk_by (own := [("number", 7)]) (N := ["self", "word", "pieces", "h", "g", "b", "n", "number"]) (sc := defScope sD_by_letters) (by decide +kernel))
          (fun _ _ _ _ _ => pg_name (i := 7) scByLetters.nd rfl (.inl rfl)) (fun _ _ _ _ _ => pts_nil) (fun _ _ _ _ _ => pe_callTy call_str_int rfl T.f_str PyProof.Rows.boot_str (pa_cons (pv 7) pa_nil))) pa_nil)))) pss_nil)
      (pss_one (ps_ret (pe_call F6 hr1 rfl T.g_listed k6 b6 .nil passL (pa_cons (pe_lc (own := [("number", 7)]) (g := gName 7) (tt := tYes) (te := tCB rStr (tCons (tVar 7) tNil)) rfl scByLetters.nd (pi_list (pe_meth (pe_fld (pv 0) rfl) T.c_World T.m_World_deliver F5 hr b5 .nil (passC (takes_of rfl rfl rfl rfl)) (pa_cons (pv 6) pa_nil)))
          (blkOk_by (own := [("number", 7)]) (N := ["self", "word", "pieces", "h", "g", "b", "n", "number"]) (sc := defScope sD_by_letters) (by decide +kernel))
          (fun _ _ _ _ _ => pg_name (i := 7) scByLetters.nd rfl (.inl rfl)) (fun _ _ _ _ _ => pts_nil) (fun _ _ _ _ _ => pe_callTy call_str_int rfl T.f_str PyProof.Rows.boot_str (pa_cons (pv 7) pa_nil))) pa_nil))))))), ?_⟩
    obtain ⟨x0, hw0⟩ := id hw
    have stepE : ∀ {e : Er}, ansR M r = .error e → ∀ H', Same H H' → E (exn K e) none H' := fun {e} h => by
      unfold RetR at q
      rw [h] at q
      exact q
    have stepO : ∀ {M' : Wd} {x : Str}, ansR M r = .ok (M', x) → ∀ H' ow', Frm (fun l => l.1 = wid) H ow H' ow' → WAt K wid H' ow' a M' → Q (.str x) H' := fun {M' x} h => by
      unfold RetR at q
      rw [h] at q
      exact q
    cases r with
    | send h g b =>
      refine ⟨_, rfl, rfl, _, rfl, iteT' (by kernel_rfl) ?_⟩
      refine ⟨_, rfl, p, rowP _, readE (by kernel_rfl), hp, rowP10 _, hro.ok, fun H1 q1 ws sm _ er dws => ?_⟩
      obtain ⟨v, u, t, rfl, dv, du, dt⟩ := three_pc dws
      cases DV.intE dv
      cases DV.intE du
      refine ⟨q1, _, rfl, SqL.of er, rfl, _, _, rfl, _, _, rfl, _, _, rfl, rfl, ?_⟩
      refine ⟨_, rfl, _, _, _, _, _, rfl, sm _ _ hd, T.c_Desk, T.n_Desk_world, df_world, _, _, _, rfl, sm _ _ hw0.ob, wf_send, _, rfl, _, rfl, _, rfl, wid, ow, a, M, h, g, t, b, rfl, hw.same sm, cleanS hcl sm, hro.wg, dt, ?_⟩
      have hnl : Nm (M.last + 1) := ⟨by have := hro.wn.l0; omega, by have := hro.wn.l1; omega⟩
      cases e : M.send h g b with
      | error er => exact stepE (by simp only [ansR, ansD, e]) H1 sm
      | ok M' => exact fun H2 ow2 f2 w2 => ⟨_, rfl, numS_log hnl, stepO (by simp only [ansR, ansD, e]; rfl) H2 ow2 (frmS hcl sm f2) w2⟩
    | ask h =>
      refine ⟨_, rfl, rfl, _, rfl, iteF' (by kernel_rfl) ?_⟩
      refine ⟨_, rfl, p, rowP _, readE (by kernel_rfl), hp, rowP10 _, hro.ok, fun H1 q1 ws sm _ er dws => ?_⟩
      obtain ⟨v, rfl, dv⟩ := one_pc dws
      cases DV.intE dv
      refine ⟨_, _, _, _, rfl, rfl, SqL.of er, atI_nat (j := 0) rfl, ?_⟩
      refine ⟨_, rfl, rfl, _, rfl, iteT' (by kernel_rfl) ?_⟩
      refine ⟨_, rfl, _, _, _, _, _, rfl, sm _ _ hd, T.c_Desk, T.n_Desk_world, df_world, _, _, _, rfl, sm _ _ hw0.ob, wf_ask, _, rfl, wid, ow, a, M, h, rfl, hw.same sm, cleanS hcl sm, hro.wg, ?_⟩
      have hnl : Nm ((M.asked.length : Int) + 1) := ⟨by omega, by have := hro.wg.as_; omega⟩
      cases e : M.ask h with
      | error er => exact stepE (by simp only [ansR, ansD, e]) H1 sm
      | ok M' => exact fun H2 ow2 f2 w2 => ⟨_, rfl, numS_log hnl, stepO (by simp only [ansR, ansD, e]; rfl) H2 ow2 (frmS hcl sm f2) w2⟩
    | clean h =>
      refine ⟨_, rfl, rfl, _, rfl, iteF' (by kernel_rfl) ?_⟩
      refine ⟨_, rfl, p, rowP _, readE (by kernel_rfl), hp, rowP10 _, hro.ok, fun H1 q1 ws sm _ er dws => ?_⟩
      obtain ⟨v, rfl, dv⟩ := one_pc dws
      cases DV.intE dv
      refine ⟨_, _, _, _, rfl, rfl, SqL.of er, atI_nat (j := 0) rfl, ?_⟩
      refine ⟨_, rfl, rfl, _, rfl, iteF' (by kernel_rfl) ⟨_, rfl, rfl, _, rfl, iteT' (by kernel_rfl) ?_⟩⟩
      refine ⟨_, rfl, _, _, _, _, _, rfl, sm _ _ hd, T.c_Desk, T.n_Desk_world, df_world, _, _, _, rfl, sm _ _ hw0.ob, wf_clean, _, rfl, wid, ow, a, M, h, rfl, hw.same sm, cleanS hcl sm, hro.wg, ?_⟩
      cases e : M.clean h with
      | error er => exact stepE (by simp only [ansR, ansN, e]) H1 sm
      | ok r1 =>
        obtain ⟨M', ns⟩ := r1
        obtain ⟨hl, hn⟩ := clean_n hro.wg hro.wn e
        intro H2 ow2 r2 f2 w2 o2 e2
        refine ⟨r2, rfl, ⟨_, SqL.of e2⟩, fun D nD => ?_⟩
        refine lc_map ns PyData.int numS (walk_list (a := r2) (xs := ns.map V.int)) rfl nD (dvs_ints ns) (by omega) (fun acc => SqL.of (keepL e2 nD)) (fun v => rfl) (fun x hx v H3 Q3 dv3 q3 => by
          cases DV.intE dv3
          exact ⟨_, rfl, _, rfl, numS_log (hn x hx), q3⟩) ?_
        refine ⟨D, ns.map numS, rfl, upd_same, by rw [List.length_map]; omega, fun x hx => ?_, fun H4 s4 => ?_⟩
        · obtain ⟨i, hi, rfl⟩ := List.mem_map.mp hx
          exact ⟨Nat.le_trans (numS_len (hn i hi)).2 (by decide), okS_num (hn i hi).1⟩
        · have f3 := (frmS hcl sm f2).new (o := .lst ((ns.map numS).map V.str)) nD
          exact stepO (by simp only [ansR, ansN, e]) H4 ow2 (f3.trans (Frm.of_same s4 (f3.cl hcl))) ((w2.same (same_new nD)).same s4)
    | come n =>
      refine ⟨_, rfl, rfl, _, rfl, iteF' (by kernel_rfl) ?_⟩
      refine ⟨_, rfl, p, rowP _, readE (by kernel_rfl), hp, rowP10 _, hro.ok, fun H1 q1 ws sm _ er dws => ?_⟩
      obtain ⟨v, rfl, dv⟩ := one_pc dws
      cases DV.intE dv
      refine ⟨_, _, _, _, rfl, rfl, SqL.of er, atI_nat (j := 0) rfl, ?_⟩
      refine ⟨_, rfl, rfl, _, rfl, iteF' (by kernel_rfl) ⟨_, rfl, rfl, _, rfl, iteF' (by kernel_rfl) ?_⟩⟩
      refine ⟨_, rfl, _, _, _, _, _, rfl, sm _ _ hd, T.c_Desk, T.n_Desk_world, df_world, _, _, _, rfl, sm _ _ hw0.ob, wf_deliver, _, rfl, wid, ow, a, M, n, rfl, hw.same sm, cleanS hcl sm, hro.wg, hro.arr n rfl, ?_⟩
      cases e : M.come n with
      | error er => exact stepE (by simp only [ansR, ansN, e]) H1 sm
      | ok r1 =>
        obtain ⟨M', ns⟩ := r1
        obtain ⟨hl, hn⟩ := come_n hro.wg hro.wn (hro.arr n rfl) e
        intro H2 ow2 r2 f2 w2 o2 e2
        refine ⟨r2, rfl, ⟨_, SqL.of e2⟩, fun D nD => ?_⟩
        refine lc_map ns PyData.int numS (walk_list (a := r2) (xs := ns.map V.int)) rfl nD (dvs_ints ns) (by omega) (fun acc => SqL.of (keepL e2 nD)) (fun v => rfl) (fun x hx v H3 Q3 dv3 q3 => by
          cases DV.intE dv3
          exact ⟨_, rfl, _, rfl, numS_log (hn x hx), q3⟩) ?_
        refine ⟨D, ns.map numS, rfl, upd_same, by rw [List.length_map]; omega, fun x hx => ?_, fun H4 s4 => ?_⟩
        · obtain ⟨i, hi, rfl⟩ := List.mem_map.mp hx
          exact ⟨Nat.le_trans (numS_len (hn i hi)).2 (by decide), okS_num (hn i hi).1⟩
        · have f3 := (frmS hcl sm f2).new (o := .lst ((ns.map numS).map V.str)) nD
          exact stepO (by simp only [ansR, ansN, e]) H4 ow2 (f3.trans (Frm.of_same s4 (f3.cl hcl))) ((w2.same (same_new nD)).same s4)
    | make _ => exact (Bool.false_ne_true hk).elim
    | free _ _ => exact (Bool.false_ne_true hk).elim
    | hold _ _ _ => exact (Bool.false_ne_true hk).elim
    | drop _ _ _ => exact (Bool.false_ne_true hk).elim
    | take _ _ _ => exact (Bool.false_ne_true hk).elim
    | post => exact (Bool.false_ne_true hk).elim
    | holds _ => exact (Bool.false_ne_true hk).elim
    | hand _ => exact (Bool.false_ne_true hk).elim
    | things _ => exact (Bool.false_ne_true hk).elim
    | found _ => exact (Bool.false_ne_true hk).elim
end
end Fh

set_option Elab.async false
set_option linter.all false
set_option maxRecDepth 100000
set_option maxHeartbeats 4000000
namespace Fh
open PySem PySem.Spec L2 FhR
open Fm (Th Hs StD Wd Er HG HB HSm Sts SZ Inq Lt Ab WG ArrOk)
theorem eqv_th (s t : Th) : PyData.eqv (dTh s) (dTh t) = decide (s = t) := by
  have e : PyData.eqv (dTh s) (dTh t) = (decide (s.1 = t.1) && decide (s.2 = t.2)) := by
    unfold dTh
    simp [PyData.eqv, PyData.eqvAll]
    rfl
  rw [e, ← Bool.decide_and]
  exact decide_eq_decide.mpr ⟨fun h => Prod.ext h.1 h.2, fun h => by rw [h]; exact ⟨rfl, rfl⟩⟩
theorem shaped_th (t : Th) : SeqAt.shaped (dTh t) = true := by
  unfold SeqAt.shaped dTh
  simp [PyData.canLay0, PyData.canLayAll0, PyData.depth, PyData.depthAll]
theorem find_at {α : Type} {l : List α} {f : α → Bool} {j : Nat} {x : α} (hx : l[j]? = some x) (hf : f x = true) (hn : ∀ y ∈ l.take j, f y = false) : l.find? f = some x := by
  rw [split_at hx, List.find?_append, List.find?_cons, hf]
  have : (l.take j).find? f = none := List.find?_eq_none.mpr fun y hy z => by rw [hn y hy] at z; cases z
  rw [this]
  rfl
theorem find_none {α : Type} {l : List α} {f : α → Bool} (hn : ∀ y ∈ l, f y = false) : l.find? f = none := List.find?_eq_none.mpr fun y hy z => by rw [hn y hy] at z; cases z
theorem okS_lst {l : List Str} (h : ∀ x ∈ l, x.length ≤ 100 ∧ okS x) : ∀ x ∈ l, x.length ≤ 100 ∧ okS x := h
def spDHolds (K : PySem.W.Frag) : Sp := fun vs H Q E => ∃ (wid : Nat) (ow : Ow) (d ddx a : Addr) (M : Wd) (v : V) (t : Th), vs = [.ref d, v] ∧ DV H v (dTh t) ∧ H d = some (.ins (dC K) ddx (df a)) ∧
  WAt K wid H ow a M ∧ Clean H ow ∧ RowOk M (.holds t) ∧ RetR K wid H ow a (ansR M (.holds t)) Q E
theorem things_len {i : Int} {S : Hs} (h : HB S) : (S.state i).things.length ≤ 1000 := by
  show ((Fm.sortI (Fm.keys S.holding)).map _).length ≤ _
  rw [List.length_map, Fm.length_sortI]
  show (S.holding.map _).length ≤ _
  rw [List.length_map]
  exact h.hg
theorem hand_len {i : Int} {S : Hs} (h : HB S) : (S.state i).hand.length ≤ 1000 := by
  show (Fm.sortT S.hand).length ≤ _
  rw [Fm.length_sortT]
  exact h.hd
theorem things_holds {i : Int} {S : Hs} (h : HB S) {e : Th × Int × List Th} (he : e ∈ (S.state i).things) : e.2.2.length ≤ 1000 := by
  obtain ⟨n, hn, rfl⟩ := st_things he
  show (Fm.sortT _).length ≤ _
  rw [Fm.length_sortT]
  obtain ⟨ts, ets⟩ := Fm.dget_some hn
  rw [ets]
  exact h.inn _ (Fm.dget_mem ets)
theorem ths_ok {l : List Th} (h : ∀ t ∈ l, Nt t) : ∀ x ∈ l.map thS, x.length ≤ 100 ∧ okS x := fun x hx => by
  obtain ⟨t, ht, rfl⟩ := List.mem_map.mp hx
  exact ⟨Nat.le_trans (thS_len (h t ht)) (by decide), okS_th (h t ht)⟩
section
variable {P : Program} {w : World} {K : PySem.W.Frag} {mg : Str → Option Value} {base : Heap}
theorem scDHolds : FnScope ["self", "a", "thing", "out", "held", "one"] ["self", "a"] (defScope sD_holds) := ⟨rfl, rfl, rfl, by decide +kernel, rfl, by decide +kernel, by decide +kernel⟩
theorem ok_dholds (T : Tx K mg) : Ok P w K mg base 3 dD_holds ["self", "a"] (spDHolds K) := by
  obtain ⟨f1, F1, b1, k1⟩ := ok_wstate (P := P) (w := w) (base := base) T
  obtain ⟨f2, F2, b2, k2⟩ := ok_thing_text (P := P) (w := w) (base := base) T
  obtain ⟨f6, F6, b6, k6⟩ := ok_listed (P := P) (w := w) (base := base) T
  refine Ok.mk T 68 rfl ⟨rfl, rfl⟩ scDHolds (fun vs H Q E h => ?_) (fun _ _ _ _ _ _ us hl => match us, hl with | [_, _], _ => rfl) (fun cdv A outer s H vs Q E hr h => ?_)
  · obtain ⟨wid, ow, d, ddx, a, M, v, t, rfl, _⟩ := h
    rfl
  · obtain ⟨wid, ow, d, ddx, a, M, v, t, rfl, dv, hd, hw, hcl, hro, q⟩ := h
    have hr1 := hr.mono (show 1 ≤ 2 by decide)
    refine ⟨_, pss_cons (ps_for (passes_of rfl) rfl (pi_tup (pe_ix ix_tup (pe_meth (pe_fld (pv 0) rfl) T.c_World T.m_World_state F1 hr b1 .nil (passC (takes_of rfl rfl rfl rfl)) (pa_cons (pe_ix ix_tup (pv 1) pe_int (fun _ _ => rfl)) pa_nil)) pe_int (fun _ _ => rfl)))
        (pg_tup rfl (pgs_cons (pg_name (i := 2) scDHolds.nd rfl (.inl rfl)) (pgs_cons (pg_name (i := 3) scDHolds.nd rfl (.inl rfl)) (pgs_cons (pg_name (i := 4) scDHolds.nd rfl (.inl rfl)) pgs_nil))))
        (pss_one (ps_if (pt_cmpR (op_eqD hr.units) (pv 2) (pv 1) (nomark _))
          (pss_one (ps_ret (pe_call F6 hr1 rfl T.g_listed k6 b6 .nil passL (pa_cons (pe_lc (own := [("one", 5)]) (g := gName 5) (tt := tYes) (te := tCall spThText [] E0 (tCons (tVar 5) tNil)) rfl scDHolds.nd (pi_tup (pv 4))
            (blkOk_by (own := [("one", 5)]) (N := ["self", "a", "thing", "out", "held", "one"]) (sc := defScope sD_holds) (by decide +kernel))
            (fun _ _ _ _ _ => pg_name (i := 5) scDHolds.nd rfl (.inl rfl)) (fun _ _ _ _ _ => pts_nil) (fun _ _ _ _ _ => pe_call F2 hr1 rfl T.g_thing_text k2 b2 .nil passL (pa_cons (pv 5) pa_nil))) pa_nil)))) pss_nil)))
      (pss_one (ps_raise rfl (takes_of rfl rfl rfl rfl) (pmk_own PySem.F.excBase_ValueError T.e_Missing.1 T.g_Missing T.e_Missing.2.1 (raises_own T.e_Missing.2.2.1 T.e_Missing.2.2.2) rfl))), ?_⟩
    obtain ⟨x0, hw0⟩ := id hw
    obtain ⟨c, rfl, hc⟩ := id dv.th
    refine ⟨_, rfl, _, _, _, _, _, rfl, hd, T.c_Desk, T.n_Desk_world, df_world, _, _, _, rfl, hw0.ob, wf_state, _, rfl, _, _, _, _, rfl, rfl, SqT.of hc, atI_nat (j := 0) rfl, wid, ow, a, M, t.1, rfl, hw, hro.wg, fun e v H1 sm dst => ?_, fun e => ?_⟩
    · obtain ⟨ps, xs, qq, ws, rfl, hps, hat, hqq, dws⟩ := dst_things dst
      have hB := (hro.wg.hs _ _ (Fm.at_of e)).2.1
      have hlen : ws.length = ((M.at t.1).state t.1).things.length := by rw [dws.length]; exact List.length_map ..
      have hal := things_len (i := t.1) hB
      refine ⟨_, _, _, _, rfl, rfl, SqT.of hps, hat, qq, rfl, ⟨_, SqT.of hqq⟩, ?_⟩
      refine for_it (walk_tup (a := qq) (xs := ws)) (fun j σ H' => ∃ v2 v3 v4 : Option V, σ = [some (.ref d), some (.ref c), v2, v3, v4, none] ∧ H' = H1 ∧ ∀ y ∈ ((M.at t.1).state t.1).things.take j, decide (y.1 = t) = false)
        ⟨_, _, _, rfl, rfl, fun y hy => by simp at hy⟩ (fun j σ H' _ z => by obtain ⟨_, _, _, _, rfl, _⟩ := z; exact SqT.of hqq) ?_ ?_
      · rintro j v σ H5 H4 hj ⟨v2, v3, v4, rfl, rfl, hnot⟩ ⟨rfl, hv⟩
        obtain ⟨dd, hd1, hdv⟩ := dws.get hv
        obtain ⟨y, hy, rfl⟩ := map_at hd1
        obtain ⟨b, c2, vh, rfl, hb, hc2, dvh⟩ := dEntE hdv
        obtain ⟨pt, wt, rfl, hpt, dwt⟩ := DV.tupE dvh
        have et := take_succ_at hy
        have hym : y ∈ ((M.at t.1).state t.1).things := List.mem_of_getElem? hy
        refine ⟨b, _, rfl, SqT.of hb, rfl, _, _, rfl, _, _, rfl, _, _, rfl, rfl, ?_⟩
        refine ⟨_, rfl, _, rfl, dTh y.1, dTh t, (DV.mkTh hc2).dp, (dv.mono (Same.ts sm)).dp, shaped_th _, shaped_th _, _, rfl, ?_⟩
        rw [eqv_th]
        by_cases cy : y.1 = t
        · rw [decide_eq_true cy]
          have hN := (st_thing_n hro.wn e hym).2
          have hL := things_holds hB hym
          refine iteT ⟨_, rfl, pt, rfl, ⟨_, SqT.of hpt⟩, fun D nD => ?_⟩
          refine lc_map y.2.2 dTh thS (walk_tup (a := pt) (xs := wt)) rfl nD dwt (by omega) (fun acc => SqT.of (keepN hpt nD)) (fun v => rfl) (fun x hx v H3 Q3 dv3 q3 => ⟨_, rfl, v, x, rfl, dv3, hN x hx, q3⟩) ?_
          refine ⟨D, y.2.2.map thS, rfl, upd_same, by rw [List.length_map]; omega, ths_ok hN, fun H4 s4 => ?_⟩
          have ea : ansR M (.holds t) = .ok (M, listS (y.2.2.map thS)) := by
            simp only [ansR, e, if_true, holdsAns]
            rw [find_at hy (decide_eq_true cy) hnot]
          unfold RetR at q
          rw [ea] at q
          have s5 := (sm.trans (same_new nD)).trans s4
          exact q H4 ow (Frm.of_same s5 hcl) (hw.same s5)
        · rw [decide_eq_false cy]
          refine iteF ⟨_, _, _, rfl, rfl, fun z hz => ?_⟩
          rw [et] at hz
          rcases List.mem_append.mp hz with hz | hz
          · exact hnot z hz
          · rw [List.mem_singleton.mp hz]
            exact decide_eq_false cy
      · rintro σ H4 ⟨v2, v3, v4, rfl, rfl, hnot⟩
        rw [hlen, List.take_length] at hnot
        have ea : ansR M (.holds t) = .error .missing := by
          simp only [ansR, e, if_true, holdsAns]
          rw [find_none hnot]
        unfold RetR at q
        rw [ea] at q
        exact q _ sm
    · have ea : ansR M (.holds t) = .error .noHouse := by
        simp only [ansR, e]
        rfl
      unfold RetR at q
      rw [ea] at q
      exact q _ (Same.refl _)
theorem scTold : FnScope ["self", "word", "pieces", "n", "state", "letter", "thing", "entry"] ["self", "word", "pieces"] (defScope sD_told) := ⟨rfl, rfl, rfl, by decide +kernel, rfl, by decide +kernel, by decide +kernel⟩
theorem letters_n {M : Wd} (wn : WN M) : ∀ e ∈ M.letters, Nm e.1 ∧ Nm e.2.sender ∧ Nm e.2.goal := fun e he => by
  unfold Wd.letters at he
  obtain ⟨n, hn, h⟩ := List.mem_filterMap.mp he
  cases el : Fm.dget M.lying n with
  | none => rw [el] at h; cases h
  | some l =>
    rw [el] at h
    cases h
    exact wn.ly _ (Fm.dget_mem el)
theorem letters_len {M : Wd} : M.letters.length ≤ M.lying.length := by
  unfold Wd.letters
  have h1 := List.length_filterMap_le (fun n => (Fm.dget M.lying n).map fun l => (n, l)) (Fm.sortI (Fm.keys M.lying))
  have h2 := Fm.length_sortI (Fm.keys M.lying)
  have h3 : (Fm.keys M.lying).length = M.lying.length := List.length_map ..
  omega
theorem ok_told (T : Tx K mg) : Ok P w K mg base 4 dD_told ["self", "word", "pieces"] (spDeskP K isTold) := by
  obtain ⟨f1, F1, b1, k1⟩ := ok_read_by (P := P) (w := w) (base := base) T
  obtain ⟨f2, F2, b2, k2⟩ := ok_thing_text (P := P) (w := w) (base := base) T
  obtain ⟨f3, F3, b3, k3⟩ := ok_wletters (P := P) (w := w) (base := base) T
  obtain ⟨f4, F4, b4, k4⟩ := ok_dholds (P := P) (w := w) (base := base) T
  obtain ⟨f5, F5, b5, k5⟩ := ok_winquiry (P := P) (w := w) (base := base) T
  obtain ⟨f6, F6, b6, k6⟩ := ok_listed (P := P) (w := w) (base := base) T
  obtain ⟨f7, F7, b7, k7⟩ := ok_wstate (P := P) (w := w) (base := base) T
  obtain ⟨f8, F8, b8, k8⟩ := ok_letter_text (P := P) (w := w) (base := base) T
  refine Ok.mk T 67 rfl ⟨rfl, rfl⟩ scTold (fun vs H Q E h => ?_) (fun _ _ _ _ _ _ us hl => match us, hl with | [_, _, _], _ => rfl) (fun cdv A outer s H vs Q E hr h => ?_)
  · obtain ⟨wid, ow, d, ddx, a, p, M, r, rfl, _⟩ := h
    rfl
  · obtain ⟨wid, ow, d, ddx, a, p, M, r, rfl, hd, hp, hk, hw, hcl, hro, q⟩ := h
    have hr1 := hr.mono (show 1 ≤ 3 by decide)
    have hr2 := hr.mono (show 2 ≤ 3 by decide)
    refine ⟨_, pss_cons (ps_if (pt_cmpR op_eq (pv 1) pe_str (nomark _))
        (pss_cons (ps_expr (pe_call F1 hr rfl T.g_read_by k1 b1 .nil passL (pa_cons (pv 2) (pa_cons pe_str pa_nil))))
        (pss_one (ps_ret (pe_call F6 hr1 rfl T.g_listed k6 b6 .nil passL (pa_cons (pe_lc (own := [("letter", 5)]) (g := gName 5) (tt := tYes) (te := tCall spLtText [] E0 (tCons (tVar 5) tNil)) rfl scTold.nd (pi_list (pe_meth0 (pe_fld (pv 0) rfl) T.c_World T.m_World_letters F3 hr2 b3 .nil passL))
            (blkOk_by (own := [("letter", 5)]) (N := ["self", "word", "pieces", "n", "state", "letter", "thing", "entry"]) (sc := defScope sD_told) (by decide +kernel))
            (fun _ _ _ _ _ => pg_name (i := 5) scTold.nd rfl (.inl rfl)) (fun _ _ _ _ _ => pts_nil) (fun _ _ _ _ _ => pe_call F8 hr1 rfl T.g_letter_text k8 b8 .nil passL (pa_cons (pv 5) pa_nil))) pa_nil))))) pss_nil)
      (pss_cons (ps_if (pt_cmpR op_eq (pv 1) pe_str (nomark _))
        (pss_one (ps_ret (pe_meth (pv 0) T.c_Desk T.m_Desk_holds F4 hr b4 .nil (passC (takes_of rfl rfl rfl rfl)) (pa_cons (pe_ix ix_list (pe_call F1 hr rfl T.g_read_by k1 b1 .nil passL (pa_cons (pv 2) (pa_cons pe_str pa_nil))) pe_int (fun _ _ => rfl)) pa_nil)))) pss_nil)
      (pss_cons (ps_if (pt_cmpR op_notIn_seq (pv 1) (pe_tup (pa_cons pe_str (pa_cons pe_str (pa_cons pe_str pa_nil)))) (by rfl))
        (pss_one (ps_raise rfl (takes_of rfl rfl rfl rfl) (pmk_own PySem.F.excBase_ValueError T.e_NoRow.1 T.g_NoRow T.e_NoRow.2.1 (raises_own T.e_NoRow.2.2.1 T.e_NoRow.2.2.2) rfl))) pss_nil)
      (pss_cons (ps_set (i := 3) scTold.nd rfl (.inl rfl) (pe_ix ix_list (pe_call F1 hr rfl T.g_read_by k1 b1 .nil passL (pa_cons (pv 2) (pa_cons pe_str pa_nil))) pe_int (fun _ _ => rfl)))
      (pss_cons (ps_if (pt_cmpR op_eq (pv 1) pe_str (nomark _))
        (pss_one (ps_ret (pe_call F6 hr1 rfl T.g_listed k6 b6 .nil passL (pa_cons (pe_lc (own := [("thing", 6)]) (g := gName 6) (tt := tYes) (te := tCall spThText [] E0 (tCons (tVar 6) tNil)) rfl scTold.nd (pi_tup (pe_ix ix_tup (pe_meth (pe_fld (pv 0) rfl) T.c_World T.m_World_inquiry F5 hr1 b5 .nil (passC (takes_of rfl rfl rfl rfl)) (pa_cons (pv 3) pa_nil)) pe_int (fun _ _ => rfl)))
            (blkOk_by (own := [("thing", 6)]) (N := ["self", "word", "pieces", "n", "state", "letter", "thing", "entry"]) (sc := defScope sD_told) (by decide +kernel))
            (fun _ _ _ _ _ => pg_name (i := 6) scTold.nd rfl (.inl rfl)) (fun _ _ _ _ _ => pts_nil) (fun _ _ _ _ _ => pe_call F2 hr1 rfl T.g_thing_text k2 b2 .nil passL (pa_cons (pv 6) pa_nil))) pa_nil)))) pss_nil)
      (pss_cons (ps_set (i := 4) scTold.nd rfl (.inl rfl) (pe_meth (pe_fld (pv 0) rfl) T.c_World T.m_World_state F7 hr2 b7 .nil (passC (takes_of rfl rfl rfl rfl)) (pa_cons (pv 3) pa_nil)))
      (pss_cons (ps_if (pt_cmpR op_eq (pv 1) pe_str (nomark _))
        (pss_one (ps_ret (pe_call F6 hr1 rfl T.g_listed k6 b6 .nil passL (pa_cons (pe_lc (own := [("thing", 6)]) (g := gName 6) (tt := tYes) (te := tCall spThText [] E0 (tCons (tVar 6) tNil)) rfl scTold.nd (pi_tup (pe_ix ix_tup (pv 4) pe_int (fun _ _ => rfl)))
            (blkOk_by (own := [("thing", 6)]) (N := ["self", "word", "pieces", "n", "state", "letter", "thing", "entry"]) (sc := defScope sD_told) (by decide +kernel))
            (fun _ _ _ _ _ => pg_name (i := 6) scTold.nd rfl (.inl rfl)) (fun _ _ _ _ _ => pts_nil) (fun _ _ _ _ _ => pe_call F2 hr1 rfl T.g_thing_text k2 b2 .nil passL (pa_cons (pv 6) pa_nil))) pa_nil)))) pss_nil)
      (pss_one (ps_ret (pe_call F6 hr1 rfl T.g_listed k6 b6 .nil passL (pa_cons (pe_lc (own := [("entry", 7)]) (g := gName 7) (tt := tYes) (te := tCall spThText [] E0 (tCons (tOp (rIxT K) (tVar 7) (tC (.int 0))) tNil)) rfl scTold.nd (pi_tup (pe_ix ix_tup (pv 4) pe_int (fun _ _ => rfl)))
            (blkOk_by (own := [("entry", 7)]) (N := ["self", "word", "pieces", "n", "state", "letter", "thing", "entry"]) (sc := defScope sD_told) (by decide +kernel))
            (fun _ _ _ _ _ => pg_name (i := 7) scTold.nd rfl (.inl rfl)) (fun _ _ _ _ _ => pts_nil) (fun _ _ _ _ _ => pe_call F2 hr1 rfl T.g_thing_text k2 b2 .nil passL (pa_cons (pe_ix ix_tup (pv 7) pe_int (fun _ _ => rfl)) pa_nil))) pa_nil)))))))))), ?_⟩
    obtain ⟨x0, hw0⟩ := id hw
    have stepE : ∀ {e : Er}, ansR M r = .error e → ∀ H', Same H H' → E (exn K e) none H' := fun {e} h => by
      unfold RetR at q
      rw [h] at q
      exact q
    have stepO : ∀ {x : Str}, ansR M r = .ok (M, x) → ∀ H', Same H H' → Q (.str x) H' := fun {x} h H' s => by
      unfold RetR at q
      rw [h] at q
      exact q H' ow (Frm.of_same s hcl) (hw.same s)
    cases r with
    | post =>
      refine ⟨_, rfl, rfl, _, rfl, iteT' (by kernel_rfl) ?_⟩
      refine ⟨_, rfl, p, rowP _, readE (by kernel_rfl), hp, rowP10 _, hro.ok, fun H1 q1 ws sm _ er dws => ?_⟩
      refine ⟨_, rfl, _, _, _, _, _, rfl, sm _ _ hd, T.c_Desk, T.n_Desk_world, df_world, _, _, _, rfl, sm _ _ hw0.ob, wf_letters, wid, ow, a, M, rfl, hw.same sm, hro.wg, fun H2 r2 ws2 sm2 nr2 er2 dws2 => ?_⟩
      refine ⟨r2, rfl, ⟨_, SqL.of er2⟩, fun D nD => ?_⟩
      have hN := letters_n hro.wn
      have hL := Nat.le_trans (letters_len (M := M)) hro.wg.ly
      refine lc_map M.letters dLt ltS (walk_list (a := r2) (xs := ws2)) rfl nD dws2 (by omega) (fun acc => SqL.of (keepL er2 nD)) (fun v => rfl) (fun x hx v H3 Q3 dv3 q3 => ⟨_, rfl, v, x, rfl, dv3, (hN x hx).1, (hN x hx).2.1, (hN x hx).2.2, q3⟩) ?_
      refine ⟨D, M.letters.map ltS, rfl, upd_same, by rw [List.length_map]; omega, fun x hx => ?_, fun H4 s4 => stepO rfl H4 (((sm.trans sm2).trans (same_new nD)).trans s4)⟩
      obtain ⟨e, he, rfl⟩ := List.mem_map.mp hx
      exact ⟨Nat.le_trans (ltS_len (hN e he).1 (hN e he).2.1 (hN e he).2.2) (by decide), okS_lt (hN e he).1 (hN e he).2.1 (hN e he).2.2⟩
    | holds t =>
      refine ⟨_, rfl, rfl, _, rfl, iteF' (by kernel_rfl) ⟨_, rfl, rfl, _, rfl, iteT' (by kernel_rfl) ?_⟩⟩
      refine ⟨_, rfl, _, _, _, rfl, hd, df_holds, _, rfl, p, rowP _, readE (by kernel_rfl), hp, rowP10 _, hro.ok, fun H1 q1 ws sm _ er dws => ?_⟩
      obtain ⟨v, rfl, dv⟩ := one_pc dws
      refine ⟨_, _, _, _, rfl, rfl, SqL.of er, atI_nat (j := 0) rfl, wid, ow, d, ddx, a, M, v, t, rfl, dv, sm _ _ hd, hw.same sm, cleanS hcl sm, ⟨hro.wg, hro.wn, hro.ok, hro.arr⟩, ?_⟩
      unfold RetR at q ⊢
      cases ea : ansR M (.holds t) with
      | error e =>
        rw [ea] at q
        exact fun H' s => q H' (sm.trans s)
      | ok r1 =>
        obtain ⟨M', x⟩ := r1
        rw [ea] at q
        exact fun H' ow' f w' => q H' ow' (frmS hcl sm f) w'
    | hand h =>
      refine ⟨_, rfl, rfl, _, rfl, iteF' (by kernel_rfl) ⟨_, rfl, rfl, _, rfl, iteF' (by kernel_rfl) ?_⟩⟩
      refine ⟨_, rfl, (by show 3 ≤ sizeLine; decide), fun p0 n0 => ⟨p0, _, rfl, .inr (SqT.of upd_same), by kernel_rfl, by kernel_rfl, _, rfl, iteF' (by kernel_rfl) ?_⟩⟩
      have s0 := same_new (o := .tup [.str "hand", .str "things", .str "found"]) n0
      refine ⟨_, rfl, p, rowP _, readE (by kernel_rfl), s0 _ _ hp, rowP10 _, hro.ok, fun H1 q1 ws sm' _ er dws => ?_⟩
      have sm := s0.trans sm'
      obtain ⟨v, rfl, dv⟩ := one_pc dws
      cases DV.intE dv
      refine ⟨_, _, _, _, rfl, rfl, SqL.of er, atI_nat (j := 0) rfl, ?_⟩
      refine ⟨_, rfl, rfl, _, rfl, iteF' (by kernel_rfl) ?_⟩
      refine ⟨_, rfl, _, _, _, _, _, rfl, sm _ _ hd, T.c_Desk, T.n_Desk_world, df_world, _, _, _, rfl, sm _ _ hw0.ob, wf_state, _, rfl, wid, ow, a, M, h, rfl, hw.same sm, hro.wg, fun e v H2 sm2 dst => ?_, fun e => stepE (by simp only [ansR, e]; rfl) _ sm⟩
      obtain ⟨ps, xs, qq, ws, rfl, hps, hat, hqq, dws⟩ := dst_hand dst
      have hN := (hro.wn.hn _ _ (Fm.at_of e)).1
      have hL := hand_len (i := h) (hro.wg.hs _ _ (Fm.at_of e)).2.1
      refine ⟨_, rfl, rfl, _, rfl, iteT' (by kernel_rfl) ⟨_, rfl, _, _, _, _, rfl, rfl, SqT.of hps, hat, qq, rfl, ⟨_, SqT.of hqq⟩, fun D nD => ?_⟩⟩
      refine lc_map ((M.at h).state h).hand dTh thS (walk_tup (a := qq) (xs := ws)) rfl nD dws (by omega) (fun acc => SqT.of (keepN hqq nD)) (fun v => rfl) (fun x hx v H3 Q3 dv3 q3 => ⟨_, rfl, v, x, rfl, dv3, hN x (st_hand hx), q3⟩) ?_
      exact ⟨D, ((M.at h).state h).hand.map thS, rfl, upd_same, by rw [List.length_map]; omega, ths_ok fun t ht => hN t (st_hand ht), fun H4 s4 => stepO (by simp only [ansR, e, if_true]) H4 (((sm.trans sm2).trans (same_new nD)).trans s4)⟩
    | things h =>
      refine ⟨_, rfl, rfl, _, rfl, iteF' (by kernel_rfl) ⟨_, rfl, rfl, _, rfl, iteF' (by kernel_rfl) ?_⟩⟩
      refine ⟨_, rfl, (by show 3 ≤ sizeLine; decide), fun p0 n0 => ⟨p0, _, rfl, .inr (SqT.of upd_same), by kernel_rfl, by kernel_rfl, _, rfl, iteF' (by kernel_rfl) ?_⟩⟩
      have s0 := same_new (o := .tup [.str "hand", .str "things", .str "found"]) n0
      refine ⟨_, rfl, p, rowP _, readE (by kernel_rfl), s0 _ _ hp, rowP10 _, hro.ok, fun H1 q1 ws sm' _ er dws => ?_⟩
      have sm := s0.trans sm'
      obtain ⟨v, rfl, dv⟩ := one_pc dws
      cases DV.intE dv
      refine ⟨_, _, _, _, rfl, rfl, SqL.of er, atI_nat (j := 0) rfl, ?_⟩
      refine ⟨_, rfl, rfl, _, rfl, iteF' (by kernel_rfl) ?_⟩
      refine ⟨_, rfl, _, _, _, _, _, rfl, sm _ _ hd, T.c_Desk, T.n_Desk_world, df_world, _, _, _, rfl, sm _ _ hw0.ob, wf_state, _, rfl, wid, ow, a, M, h, rfl, hw.same sm, hro.wg, fun e v H2 sm2 dst => ?_, fun e => stepE (by simp only [ansR, e]; rfl) _ sm⟩
      obtain ⟨ps, xs, qq, ws, rfl, hps, hat, hqq, dws⟩ := dst_things dst
      have hL := things_len (i := h) (hro.wg.hs _ _ (Fm.at_of e)).2.1
      refine ⟨_, rfl, rfl, _, rfl, iteF' (by kernel_rfl) ⟨_, rfl, _, _, _, _, rfl, rfl, SqT.of hps, hat, qq, rfl, ⟨_, SqT.of hqq⟩, fun D nD => ?_⟩⟩
      refine lc_map ((M.at h).state h).things dEnt (fun e => thS e.1) (walk_tup (a := qq) (xs := ws)) rfl nD dws (by omega) (fun acc => SqT.of (keepN hqq nD)) (fun v => rfl) (fun x hx v H3 Q3 dv3 q3 => by
        obtain ⟨b, c, v2, rfl, hb, hc, _⟩ := dEntE dv3
        exact ⟨_, rfl, _, _, _, _, rfl, rfl, SqT.of hb, atI_nat (j := 0) rfl, _, x.1, rfl, .mkTh hc, (st_thing_n hro.wn e hx).1, q3⟩) ?_
      have ea : ansR M (.things h) = .ok (M, listS (((M.at h).state h).things.map fun e => thS e.1)) := by simp only [ansR, e, if_true]
      have hok : ∀ x ∈ ((M.at h).state h).things.map fun e => thS e.1, x.length ≤ 100 ∧ okS x := fun x hx => by
        obtain ⟨y, hy, rfl⟩ := List.mem_map.mp hx
        have := (st_thing_n hro.wn e hy).1
        exact ⟨Nat.le_trans (thS_len this) (by decide), okS_th this⟩
      have hll : (((M.at h).state h).things.map fun e => thS e.1).length ≤ 100000 := by rw [List.length_map]; omega
      have fin := stepO ea
      generalize ((M.at h).state h).things.map (fun e => thS e.1) = xs at hok hll fin
      exact ⟨D, xs, rfl, upd_same, hll, hok, fun H4 s4 => fin H4 (((sm.trans sm2).trans (same_new nD)).trans s4)⟩
    | found n =>
      refine ⟨_, rfl, rfl, _, rfl, iteF' (by kernel_rfl) ⟨_, rfl, rfl, _, rfl, iteF' (by kernel_rfl) ?_⟩⟩
      refine ⟨_, rfl, (by show 3 ≤ sizeLine; decide), fun p0 n0 => ⟨p0, _, rfl, .inr (SqT.of upd_same), by kernel_rfl, by kernel_rfl, _, rfl, iteF' (by kernel_rfl) ?_⟩⟩
      have s0 := same_new (o := .tup [.str "hand", .str "things", .str "found"]) n0
      refine ⟨_, rfl, p, rowP _, readE (by kernel_rfl), s0 _ _ hp, rowP10 _, hro.ok, fun H1 q1 ws sm' _ er dws => ?_⟩
      have sm := s0.trans sm'
      obtain ⟨v, rfl, dv⟩ := one_pc dws
      cases DV.intE dv
      refine ⟨_, _, _, _, rfl, rfl, SqL.of er, atI_nat (j := 0) rfl, ?_⟩
      refine ⟨_, rfl, rfl, _, rfl, iteT' (by kernel_rfl) ?_⟩
      have hN : ∀ t ∈ (Fm.dget M.done n).getD [], Nt t := by
        cases ed : Fm.dget M.done n with
        | none => intro t ht; cases ht
        | some ts => exact (hro.wn.dn _ (Fm.dget_mem ed)).2
      have hL : ((Fm.dget M.done n).getD []).length ≤ 20000 := by
        cases ed : Fm.dget M.done n with
        | none => exact Nat.zero_le _
        | some ts => exact (hro.wn.dn _ (Fm.dget_mem ed)).1
      refine ⟨_, rfl, _, _, _, _, _, rfl, sm _ _ hd, T.c_Desk, T.n_Desk_world, df_world, _, _, _, rfl, sm _ _ hw0.ob, wf_inquiry, _, rfl, wid, ow, a, M, n, rfl, hw.same sm, hro.wg, fun hin v H2 sm2 dst => ?_, fun hin => stepE (by simp only [ansR, Wd.inquiry, if_neg hin]) _ sm⟩
      obtain ⟨ps, wsq, rfl, hps, dq⟩ := DV.tupE dst
      obtain ⟨vb, wsq, rfl, _, dq⟩ := dq.consE
      obtain ⟨vt, wsq, rfl, dvt, dq⟩ := dq.consE
      cases dq.nilE
      obtain ⟨qq, ws, rfl, hqq, dws⟩ := DV.tupE dvt
      refine ⟨_, _, _, _, rfl, rfl, SqT.of hps, atI_nat (j := 1) rfl, qq, rfl, ⟨_, SqT.of hqq⟩, fun D nD => ?_⟩
      refine lc_map ((Fm.dget M.done n).getD []) dTh thS (walk_tup (a := qq) (xs := ws)) rfl nD dws (by omega) (fun acc => SqT.of (keepN hqq nD)) (fun v => rfl) (fun x hx v H3 Q3 dv3 q3 => ⟨_, rfl, v, x, rfl, dv3, hN x hx, q3⟩) ?_
      exact ⟨D, ((Fm.dget M.done n).getD []).map thS, rfl, upd_same, by rw [List.length_map]; omega, ths_ok hN, fun H4 s4 => stepO (by simp only [ansR, Wd.inquiry, if_pos hin]) H4 (((sm.trans sm2).trans (same_new nD)).trans s4)⟩
    | make _ => exact (Bool.false_ne_true hk).elim
    | free _ _ => exact (Bool.false_ne_true hk).elim
    | hold _ _ _ => exact (Bool.false_ne_true hk).elim
    | drop _ _ _ => exact (Bool.false_ne_true hk).elim
    | take _ _ _ => exact (Bool.false_ne_true hk).elim
    | send _ _ _ => exact (Bool.false_ne_true hk).elim
    | ask _ => exact (Bool.false_ne_true hk).elim
    | clean _ => exact (Bool.false_ne_true hk).elim
    | come _ => exact (Bool.false_ne_true hk).elim
end
end Fh

set_option Elab.async false
set_option linter.all false
set_option maxRecDepth 100000
set_option maxHeartbeats 4000000
namespace Fh
open PySem PySem.Spec L2 FhR
open Fm (Th Hs StD Wd Er HG HB HSm Sts SZ Inq Lt Ab WG ArrOk)
def spSay (K : PySem.W.Frag) : Sp := fun vs H Q E => ∃ (wid : Nat) (ow : Ow) (d ddx a : Addr) (M : Wd) (r : Row), vs = [.ref d, .str (rowS r)] ∧ H d = some (.ins (dC K) ddx (df a)) ∧
  WAt K wid H ow a M ∧ Clean H ow ∧ RowOk M r ∧ RetR K wid H ow a (ansR M r) Q E
def spDInit (K : PySem.W.Frag) : Sp := fun vs H Q _ => ∃ (wid : Nat) (l : Lab) (ow : Ow) (d ddx : Addr) (n : Nat) (share : Int), vs = [.ref d, .int n, .int share] ∧ H d = some (.ins (dC K) ddx []) ∧ ow d = some l ∧ l.1 ≠ wid ∧ Clean H ow ∧ n ≤ 4 ∧
  ∀ H' ow' a, Frm (fun m => m.1 = wid ∨ m = l) H ow H' ow' → H' d = some (.ins (dC K) ddx (df a)) → ow' d = some l → WAt K wid H' ow' a (Wd.new n share) → Q .non H'
theorem RetR.mono {K : PySem.W.Frag} {wid : Nat} {H H1 : Hp} {ow : Ow} {a : Addr} {r : Except Er (Wd × Str)} {Q : VK} {E : XK} (h : RetR K wid H ow a r Q E) (hcl : Clean H ow) (s : Same H H1) : RetR K wid H1 ow a r Q E := by
  unfold RetR at h ⊢
  cases r with
  | error e => exact fun H' s' => h H' (s.trans s')
  | ok r1 => exact fun H' ow' f w' => h H' ow' (frmS hcl s f) w'
section
variable {P : Program} {w : World} {K : PySem.W.Frag} {mg : Str → Option Value} {base : Heap}
theorem scSay : FnScope ["self", "row", "pieces", "word"] ["self", "row"] (defScope sD_say) := ⟨rfl, rfl, rfl, by decide +kernel, rfl, by decide +kernel, by decide +kernel⟩
theorem cut1 (x : V) (xs : List V) : cutV (x :: xs) (some 1) none = xs := by
  unfold cutV HT.sIx
  simp
theorem ok_say (T : Tx K mg) : Ok P w K mg base 8 dD_say ["self", "row"] (spSay K) := by
  obtain ⟨f1, F1, b1, k1⟩ := ok_deed (P := P) (w := w) (base := base) T
  obtain ⟨f2, F2, b2, k2⟩ := ok_by_letters (P := P) (w := w) (base := base) T
  obtain ⟨f3, F3, b3, k3⟩ := ok_told (P := P) (w := w) (base := base) T
  refine Ok.mk T 64 rfl ⟨rfl, rfl⟩ scSay (fun vs H Q E h => ?_) (fun _ _ _ _ _ _ us hl => match us, hl with | [_, _], _ => rfl) (fun cdv A outer s H vs Q E hr h => ?_)
  · obtain ⟨wid, ow, d, ddx, a, M, r, rfl, _⟩ := h
    rfl
  · obtain ⟨wid, ow, d, ddx, a, M, r, rfl, hd, hw, hcl, hro, q⟩ := h
    have hr4 := hr.mono (show 4 ≤ 7 by decide)
    have hr5 := hr.mono (show 5 ≤ 7 by decide)
    refine ⟨_, pss_cons (ps_set (i := 2) scSay.nd rfl (.inl rfl) (pe_split (pv 1) pe_str))
      (pss_cons (ps_set (i := 3) scSay.nd rfl (.inl rfl) (pe_ix ix_list (pv 2) pe_int (fun _ _ => rfl)))
      (pss_cons (ps_if (pt_cmpR op_in_seq (pv 3) (pe_tup (pa_cons pe_str (pa_cons pe_str (pa_cons pe_str (pa_cons pe_str (pa_cons pe_str pa_nil)))))) (by rfl))
        (pss_one (ps_ret (pe_meth (pv 0) T.c_Desk T.m_Desk_deed F1 hr5 b1 .nil (passC (takes_of rfl rfl rfl rfl)) (pa_cons (pv 3) (pa_cons (pe_slice sl_list (pv 2) (po_some pe_int) po_none) pa_nil))))) pss_nil)
      (pss_cons (ps_if (pt_cmpR op_in_seq (pv 3) (pe_tup (pa_cons pe_str (pa_cons pe_str (pa_cons pe_str (pa_cons pe_str pa_nil))))) (by rfl))
        (pss_one (ps_ret (pe_meth (pv 0) T.c_Desk T.m_Desk_by_letters F2 hr b2 .nil (passC (takes_of rfl rfl rfl rfl)) (pa_cons (pv 3) (pa_cons (pe_slice sl_list (pv 2) (po_some pe_int) po_none) pa_nil))))) pss_nil)
      (pss_one (ps_ret (pe_meth (pv 0) T.c_Desk T.m_Desk_told F3 hr4 b3 .nil (passC (takes_of rfl rfl rfl rfl)) (pa_cons (pv 3) (pa_cons (pe_slice sl_list (pv 2) (po_some pe_int) po_none) pa_nil)))))))), ?_⟩
    have hsl := rowS_len hro.ok
    refine ⟨_, rfl, ⟨_, rfl⟩, _, _, rfl, rfl, by decide +kernel, by rw [sizeLine_eq]; omega, fun p np => ?_⟩
    rw [rowS_split hro.ok]
    have s1 := same_new (o := .lst ((rowW r :: (rowP r).map pcS).map V.str)) np
    have e1 : upd H p (.lst ((rowW r :: (rowP r).map pcS).map V.str)) p = some (.lst ((rowW r :: (rowP r).map pcS).map V.str)) := upd_same
    generalize upd H p (.lst ((rowW r :: (rowP r).map pcS).map V.str)) = H1 at s1 e1
    refine ⟨_, rfl, _, _, _, _, rfl, rfl, SqL.of e1, atI_nat (j := 0) rfl, ?_⟩
    refine ⟨_, rfl, (by show 5 ≤ sizeLine; decide), fun p2 n2 => ?_⟩
    have s2 := s1.trans (same_new (o := .tup [.str "make", .str "hold", .str "drop", .str "take", .str "free"]) n2)
    have e2 := keepL e1 n2 (o := .tup [.str "make", .str "hold", .str "drop", .str "take", .str "free"])
    have t2 : upd H1 p2 (.tup [.str "make", .str "hold", .str "drop", .str "take", .str "free"]) p2 = some (.tup [.str "make", .str "hold", .str "drop", .str "take", .str "free"]) := upd_same
    generalize upd H1 p2 (.tup [.str "make", .str "hold", .str "drop", .str "take", .str "free"]) = H2 at s2 e2 t2
    refine ⟨p2, _, rfl, .inr (SqT.of t2), rfl, by kernel_rfl, _, rfl, ?_⟩
    -- the last pieces
    have last : ∀ {H3 : Hp}, Same H H3 → H3 p = some (.lst ((rowW r :: (rowP r).map pcS).map V.str)) → ∀ q3, H3 q3 = none → ∀ {k : Row → Bool}, k r = true → spDeskP K k [.ref d, .str (rowW r), .ref q3] (upd H3 q3 (.lst (cutV ((rowW r :: (rowP r).map pcS).map V.str) (some 1) none))) Q E := by
      intro H3 s3 e3 q3 n3 k hk
      have s4 := s3.trans (same_new (o := .lst (cutV ((rowW r :: (rowP r).map pcS).map V.str) (some 1) none)) n3)
      refine ⟨wid, ow, d, ddx, a, q3, M, r, rfl, s4 _ _ hd, ?_, hk, hw.same s4, cleanS hcl s4, hro, q.mono hcl s4⟩
      rw [upd_same, List.map_cons, cut1]
    cases hkd : isDeed r with
    | true =>
      refine iteT' (by cases r <;> first | exact (Bool.false_ne_true hkd).elim | kernel_rfl) ?_
      exact ⟨_, rfl, _, _, _, rfl, s2 _ _ hd, df_deed, _, rfl, _, rfl, 1, rfl, p, _, rfl, SqL.of e2, fun q3 n3 => last s2 e2 q3 n3 hkd⟩
    | false =>
      refine iteF' (by cases r <;> first | exact (Bool.false_ne_true hkd.symm).elim | kernel_rfl) ?_
      refine ⟨_, rfl, (by show 4 ≤ sizeLine; decide), fun p4 n4 => ?_⟩
      have s3 := s2.trans (same_new (o := .tup [.str "send", .str "ask", .str "clean", .str "come"]) n4)
      have e3 := keepL e2 n4 (o := .tup [.str "send", .str "ask", .str "clean", .str "come"])
      have t3 : upd H2 p4 (.tup [.str "send", .str "ask", .str "clean", .str "come"]) p4 = some (.tup [.str "send", .str "ask", .str "clean", .str "come"]) := upd_same
      generalize upd H2 p4 (.tup [.str "send", .str "ask", .str "clean", .str "come"]) = H3 at s3 e3 t3
      refine ⟨p4, _, rfl, .inr (SqT.of t3), rfl, by kernel_rfl, _, rfl, ?_⟩
      cases hkl : isLett r with
      | true =>
        refine iteT' (by cases r <;> first | exact (Bool.false_ne_true hkl).elim | kernel_rfl) ?_
        exact ⟨_, rfl, _, _, _, rfl, s3 _ _ hd, df_by_letters, _, rfl, _, rfl, 1, rfl, p, _, rfl, SqL.of e3, fun q3 n3 => last s3 e3 q3 n3 hkl⟩
      | false =>
        refine iteF' (by cases r <;> first | exact (Bool.false_ne_true hkl.symm).elim | kernel_rfl) ?_
        have hkt : isTold r = true := by cases r <;> first | rfl | exact (Bool.false_ne_true hkl.symm).elim | exact (Bool.false_ne_true hkd.symm).elim
        exact ⟨_, rfl, _, _, _, rfl, s3 _ _ hd, df_told, _, rfl, _, rfl, 1, rfl, p, _, rfl, SqL.of e3, fun q3 n3 => last s3 e3 q3 n3 hkt⟩
theorem df_init {a : Addr} : putF "world" (.ref a) [] = df a := by kernel_rfl
theorem scDInit : FnScope ["self", "many", "share"] ["self", "many", "share"] (defScope sD_init) := ⟨rfl, rfl, rfl, by decide +kernel, rfl, by decide +kernel, by decide +kernel⟩
theorem ok_Desk (T : Tx K mg) : Ok P w K mg base 5 dD_init ["self", "many", "share"] (spDInit K) := by
  obtain ⟨f1, F1, b1, k1⟩ := ok_World (P := P) (w := w) (base := base) T
  refine Ok.mk T 63 rfl ⟨rfl, rfl⟩ scDInit (fun vs H Q E h => ?_) (fun _ _ _ _ _ _ us hl => match us, hl with | [_, _, _], _ => rfl) (fun cdv A outer s H vs Q E hr h => ?_)
  · obtain ⟨wid, l, ow, d, ddx, n, share, rfl, _⟩ := h
    rfl
  · obtain ⟨wid, l, ow, d, ddx, n, share, rfl, hd, ld, hl, hcl, hn, q⟩ := h
    refine ⟨_, pss_one (ps_fld (pv 0) (pe_make T.k_World F1 hr rfl T.g_World b1 .nil passL (pa_cons (pv 1) (pa_cons (pv 2) pa_nil))) rfl), ?_⟩
    refine ⟨_, rfl, _, rfl, fun a adx na nx ne => ?_⟩
    have na' : upd H adx (.own a) a = none := by rw [upd_ne ne.symm]; exact na
    have s1 := (same_new (o := .own a) nx).trans (same_new (o := .ins (wC K) adx []) na')
    have f0 : Frm (fun m => m.1 = wid) H ow _ (setO ow a (wid, .ms)) := (((Frm.refl).new (o := .own a) nx).new (o := .ins (wC K) adx []) na').label (l := (wid, .ms)) na ⟨_, upd_same⟩
    refine ⟨wid, setO ow a (wid, .ms), a, adx, n, share, rfl, upd_same, setO_same, f0.cl hcl, hn, fun H2 ow2 f2 w2 => ⟨rfl, ?_⟩⟩
    have f3 := f0.trans f2
    obtain ⟨d2, l2⟩ := f3.at hd (.inr ⟨l, ld, hl⟩)
    have ld2 : ow2 d = some l := l2.trans ld
    refine ⟨_, rfl, _, _, _, _, rfl, d2, T.c_Desk, T.n_Desk_world, (by show 0 < 1000; decide), ?_⟩
    rw [df_init]
    obtain ⟨x2, w2'⟩ := w2
    have f4 : Frm (fun m => m.1 = wid ∨ m = l) H ow _ ow2 := (f3.mono fun m h => .inl h).lab (o' := .ins (dC K) ddx (df a)) hd (by intro xs z; cases z) ld (.inr rfl)
    refine q _ ow2 a f4 upd_same ld2 ⟨x2, w2'.stay (fun b o m e1 e2 e3 => ⟨by rw [upd_ne fun z => by rw [z, ld2] at e2; injection e2 with e2; exact hl (e2 ▸ e3)]; exact e1, rfl⟩) (ts_put d2 (by intro xs z; cases z))⟩
end
end Fh

set_option Elab.async false
set_option linter.all false
set_option maxRecDepth 100000
set_option maxHeartbeats 4000000
/-! in an except suite: a def that is called with the exception, a comprehension over a list -/
namespace FhH
open PySem PySem.Spec PyProof.Rows L2 L2H HotX
/-! ### the end of a list while an exception is handled -/
section
variable {prog : Program} {w : World} {A : Around} {E : Value → Shared → Prop} {s : Shared}
theorem list_end_hot {itr lv x1 : Addr} {i : Nat} {itemsv : Array Value} {Q : Option Value → Shared → Prop} (hotv : HotAt A x1 s.heap) (hx1 : x1 ≠ itr) (hit : s.heap.IsListIter itr lv i) (hlv : s.heap.IsList lv itemsv) (hxv : itemsv[i]? = none)
    (hQ : ∀ h', Heap.ExtBut itr s.heap h' → Q none { s with heap := h' }) : wpAny (model prog w) A (pyNext (.ref itr)) Q E s := by
  obtain ⟨ov, hov, hcl, hdv⟩ := id hit
  obtain ⟨olv, holv, _, nlv, hdlv⟩ := hlv
  obtain ⟨hh, ov1, vs1, hv1, dv1, c1⟩ := hotv
  unfold pyNext
  refine wpAny_bind (wpAny_attempt (wpAny_callSpecial?_slot (name := Str.ofString "__next__") hit.typeIs slot_listiter_next (wpAny_call_entry slot_listiter_next hit.typeIs entry_listiter_next ?_ (args_listiter_next _))))
  show wpAny _ _ (field (.ref itr) 0 >>= _) _ _ s
  refine wpAny_bind (wpAny_field hov hdv (x := .ref lv) rfl ?_)
  show wpAny _ _ (if (Value.ref lv == Value.none) = true then _ else _) _ _ s
  rw [if_neg (show ¬ ((Value.ref lv == Value.none) = true) from Bool.false_ne_true)]
  show wpAny _ _ (field (.ref itr) 1 >>= _) _ _ s
  refine wpAny_bind (wpAny_field hov hdv (x := .int i 0) rfl ?_)
  show wpAny _ _ (seqItems? (.ref lv) >>= _) _ _ s
  refine wpAny_bind (wpAny_seqItems holv hdlv ?_)
  simp only [Int.toNat_natCast, hxv]
  refine wpAny_bind (wpAny_rule (wpAny_bind (wpAny_setField hov hdv (by simp) ?_)))
  show wpAny _ _ (newExc (.type "StopIteration") [] >>= _) _ _ _
  refine wpAny_bind ?_
  simp only [newExc, newTuple]
  refine wpAny_bind (wpAny_newObj_type ?_ (by size_fits))
  refine wpAny_bind (m := firstArgMember _ _) (wpAny_of_eq (a := Value.none) (by first | rfl | (simp only [firstArgMember]; rfl)) ?_)
  refine wpAny_newObj_type ?_ (by size_fits)
  have k1 : ∀ {f : Obj → Obj}, (s.heap.update itr f).get? x1 = some ov1 := fun {f} => (Heap.get?_update_other _ _ hx1.symm).trans hv1
  refine raiseNew_hot ⟨hh, ov1, vs1, Heap.get?_push_of_some _ (Heap.get?_push_of_some _ k1), dv1, c1⟩ (Nat.ne_of_lt (Heap.lt_size (Heap.get?_push_of_some _ k1))) (Heap.get?_push_size _ rfl) rfl (by first | (simp; done) | (simp; omega) | (simp only [Array.size_append]; simp; omega)) ?_
  refine wpAny_bind (wpAny_isInstance (T := "StopIteration") (b := true) ⟨_, Heap.get?_update_self _ (Heap.get?_push_size _ rfl) rfl, rfl⟩ isSubtype_stop ?_)
  refine wpAny_pure (hQ _ fun bv uv hbv ev => ?_)
  have ev2 : ∀ {f : Obj → Obj}, (s.heap.update itr f).get? bv = some uv := fun {f} => (Heap.get?_update_other _ _ (Ne.symm hbv)).trans ev
  rw [Heap.get?_update_other _ _ (Nat.ne_of_gt (Heap.lt_size (Heap.get?_push_of_some _ ev2)))]
  exact Heap.get?_push_of_some _ (Heap.get?_push_of_some _ ev2)
end
/-- a walk's turns while the exception hp is handled -/
structure TurnE (P : Program) (w : World) (K : PySem.W.Frag) (tg : Expr) (Jv : It) (fp : List Addr) (itr : Addr) (tn : Nat → Heap → Prop) : Prop where
  mem : itr ∈ fp
  obj : ∀ i h, tn i h → ∀ bv ∈ fp, ∃ ov, h.get? bv = some ov ∧ ∀ v, ov.data ≠ .cell v
  keep : ∀ i h h', tn i h → (∀ bv ∈ fp, ∀ ov, h.get? bv = some ov → h'.get? bv = some ov) → tn i h'
  item : ∀ (X : Cx), X.prog = P → X.w = w → X.K = K → ∀ hp : Addr × Obj, Hot1 X.A hp → ∀ (i : Nat) (pz : List (Addr × Obj)), hp ∈ X.pn ++ pz → ∀ (s : Shared) (τ : L2.St) (Hx : Hp) (E : Value → Shared → Prop), Inv X pz τ Hx s → (∀ bv ∈ fp, FpOk X pz Hx bv) → tn i s.heap → Jv.go i Hx →
    wpAny (model P w) X.A (pyNext (.ref itr)) (fun r sh1 => ∃ uv, r = some uv ∧
      wpAny (model P w) X.A (letOwnedTupleGo tg (.ref itr) uv) (fun _ sh2 => ∃ x Hx', Inv X pz τ Hx' sh2 ∧ RelV x uv ∧ Jv.yld i Hx x Hx' ∧ tn (i + 1) sh2.heap ∧ ∀ bv ∈ fp, Hx' bv = none) E sh1) E s
  done : ∀ (X : Cx), X.prog = P → X.w = w → X.K = K → ∀ hp : Addr × Obj, Hot1 X.A hp → ∀ (i : Nat) (pz : List (Addr × Obj)), hp ∈ X.pn ++ pz → ∀ (s : Shared) (τ : L2.St) (Hx : Hp) (E : Value → Shared → Prop), Inv X pz τ Hx s → (∀ bv ∈ fp, FpOk X pz Hx bv) → tn i s.heap → Jv.stop i Hx →
    wpAny (model P w) X.A (pyNext (.ref itr)) (fun r sh1 => r = none ∧ Inv X pz τ Hx sh1) E s
  self : ∀ (A : Around) (i : Nat) (s : Shared) (Q : Value → Shared → Prop) (E : Value → Shared → Prop), tn i s.heap → Q (.ref itr) s → wpAny (model P w) A (pyIter (.ref itr)) Q E s
theorem turn_listE {P : Program} {w : World} {K : PySem.W.Frag} {tg : Expr} (a itr : Addr) : TurnE P w K tg (Itl K a) [itr] itr (fun i h => h.IsListIter itr a i) where
  mem := by simp
  obj := fun i h stv bv hbv => by
    have ev : bv = itr := by simpa using hbv
    subst ev
    obtain ⟨ov, ev, cv, dv⟩ := stv
    exact ⟨ov, ev, fun v zv => by rw [dv] at zv; cases zv⟩
  keep := fun i h h' stv kv => stv.at fun ov ev => kv itr (by simp) ov ev
  item := by
    intro X hP hwv hK hp hotv i pz hpm s τ Hx E Iw hf stv hg
    subst hP hwv hK
    obtain ⟨xs, x, hqv, hxv⟩ := hg
    obtain ⟨itsv, rvv, p, hzv⟩ := Iw.list hqv
    obtain ⟨uv, huv, ru⟩ := rvv.get hxv
    obtain ⟨fv0, fv1, fv2, fv3, fv4, fv5⟩ := hf itr (by simp)
    refine wpAny_pyNext_list_item stv p.isList (x := uv) (by simpa using huv) fun h' stv' sbv => ?_
    have Iw1 : Inv X pz τ Hx { s with heap := h' } := Iw.turned (t' := s.toks) (fun bv ov hbv ev => (sbv.2 bv hbv).trans ev) fv0 fv1 fv3 fv4 fv5
    obtain ⟨ov, ev, cv, dv⟩ := id stv'
    exact ⟨uv, rfl, go_of (s := { s with heap := h' }) ev cv dv (by decide) ⟨x, Hx, Iw1, ru, ⟨rfl, fun ys hy => by rw [Iw.list_inj hy hqv]; exact hxv⟩, stv', fun bv hbv => (hf bv hbv).1⟩⟩
  done := by
    intro X hP hwv hK hp hotv i pz hpm s τ Hx E Iw hf stv hg
    subst hP hwv hK
    obtain ⟨xs, hqv, hxv⟩ := hg
    obtain ⟨itsv, rvv, p, hzv⟩ := Iw.list hqv
    obtain ⟨fv0, fv1, fv2, fv3, fv4, fv5⟩ := hf itr (by simp)
    have hlv := rvv.length
    obtain ⟨hh, v1, ev1, c1⟩ := hotv
    exact list_end_hot ⟨hh, hp.2, v1, (Iw.pin hp hpm).1, ev1, c1⟩ (fv5 hp hpm) stv p.isList (by simp; omega) fun h' eb => ⟨rfl, Iw.turned (t' := s.toks) (fun bv ov hbv ev => eb bv ov hbv ev) fv0 fv1 fv3 fv4 fv5⟩
  self := fun _ _ _ _ _ stv h => wpAny_pyIter_listiter stv h
structure PIE1 (X : Cx) (tg iter : Expr) (wi : TI) : Prop where
  run : ∀ (pz : List (Addr × Obj)) (s : Shared) (τ : L2.St) (Hx : Hp) (R : It → Hp → Prop), Inv X pz τ Hx s → wi τ Hx R →
    wpAny (model X.prog X.w) X.A (eval iter X.env) (fun v sh1 => wpAny (model X.prog X.w) X.A (pyIter v) (fun itv sh2 => ∃ (itr : Addr) (fp : List Addr) (tn : Nat → Heap → Prop) (Jv : It) (Hx' : Hp), itv = .ref itr ∧ Inv X pz τ Hx' sh2 ∧ TurnE X.prog X.w X.K tg Jv fp itr tn ∧ tn 0 sh2.heap ∧ (∀ bv ∈ fp, FpOk X pz Hx' bv) ∧ R Jv Hx') X.xe sh1) X.xe s
theorem pi_listE {X : Cx} {tg lv : Expr} {tl : TE} (hlv : PE X lv tl) : PIE1 X tg lv (iList X.K tl) := by
  refine ⟨fun pz s τ Hx R Iw h => ?_⟩
  refine thn (hlv.run pz s τ Hx _ Iw h) fun v sh1 ⟨x, Hx1, Iw1, rv1, qv1⟩ => ?_
  obtain ⟨a, ev, ⟨xs, hqv⟩, qv⟩ := qv1
  subst ev
  cases rv1
  obtain ⟨itsv, rvv, p, hzv⟩ := Iw1.list hqv
  refine wpAny_pyIter_list p.isList ?_
  refine ⟨sh1.heap.objs.size, [sh1.heap.objs.size], _, _, Hx1, rfl, Iw1.kept (t' := sh1.toks) fun bv ov ev => Heap.get?_push_of_some _ ev, turn_listE a _, ⟨_, Heap.get?_push_size _ rfl, rfl, rfl⟩, fun bv hbv => ?_, qv⟩
  have ev : bv = sh1.heap.objs.size := by simpa using hbv
  subst ev
  exact Iw1.fpOk (Nat.le_refl _) (Iw1.hok.fresh (Nat.le_refl _))
/-- one more object is pinned -/
theorem pin_more {X : Cx} {τ : L2.St} {Hx : Hp} {s : Shared} {p : Addr × Obj} (Iw : Inv X [] τ Hx s) (hp : s.heap.get? p.1 = some p.2 ∧ Hx p.1 = none ∧ p.1 ≠ X.env.locals ∧ p.1 ∉ X.fs ∧ ∀ v, p.2.data ≠ .cell v) : Inv X [p] τ Hx s :=
  ⟨Iw.ok, Iw.os, Iw.bare, Iw.base, Iw.loc, Iw.cell, Iw.free, Iw.freeC, fun qv hqv => by
    rcases List.mem_append.mp hqv with zv | zv
    · exact Iw.pin qv (List.mem_append_left _ zv)
    · rw [List.mem_singleton.mp zv]
      exact hp, Iw.hok, Iw.len⟩
section
variable {X : Cx} {pz : List (Addr × Obj)} {τ : L2.St} {Hx : Hp} {s : Shared}
theorem blk_pin {scope : Scope} {cl : List (Str × Addr)} {fp : List Addr} {p : Addr × Obj} {h' : Heap} (Iw : Inv X pz τ Hx s) (hp : p ∈ X.pn ++ pz) (kv : ∀ bv ov, s.heap.get? bv = some ov → h'.get? bv = some ov) :
    h'.get? p.1 = some p.2 ∧ Hx p.1 = none ∧ p.1 ≠ (X.blk s Hx scope (compEnvC scope cl s.heap.objs.size X.env) fp).env.locals ∧ p.1 ∉ (X.blk s Hx scope (compEnvC scope cl s.heap.objs.size X.env) fp).fs ∧ ∀ v, p.2.data ≠ .cell v := by
  obtain ⟨hv1, hv2, hv3, hv4, hv5⟩ := Iw.pin p hp
  refine ⟨kv _ _ hv1, hv2, Nat.ne_of_lt (Heap.lt_size hv1), ?_, hv5⟩
  intro hmv
  exact (List.mem_cons.mp (Iw.stkSub p.1 hmv)).elim hv3 hv4
end
section
variable {X : Cx}
theorem hot_core {pz : List (Addr × Obj)} {s : Shared} {τ : L2.St} {Hx : Hp} {Q : VK} {elt tg iter : Expr} {ifs : List Expr} {scope : Scope} {own : List (Str × Nat)} {pos pos' : Pos} {wi : TI} {g : TG} {tt : TT} {te : TE} {use : Option (Value → Sem Unit)} {Qf : Value → Shared → Prop}
    {hp : Addr × Obj} (hc : Hot1 X.A hp) (hpm : hp ∈ X.pn) (hN : X.N.Nodup) (Iw : Inv X pz τ Hx s) (hi : PIE1 X tg iter wi) (ok : BlkOk X.N X.env.scope scope own)
    (hg : ∀ (s : Shared) (Hx : Hp) (C : Addr) (cl : List (Str × Addr)) (fp : List Addr), PG (X.blk s Hx scope (compEnvC scope cl C X.env) fp) tg g) (ht : ∀ (s : Shared) (Hx : Hp) (C : Addr) (cl : List (Str × Addr)) (fp : List Addr), PTs (X.blk s Hx scope (compEnvC scope cl C X.env) fp) ifs tt)
    (he : ∀ (s : Shared) (Hx : Hp) (C : Addr) (cl : List (Str × Addr)) (fp : List Addr), PE (X.blk s Hx scope (compEnvC scope cl C X.env) fp) elt te) (hsv : ∀ x, foldedSetIterable iter X.env x = pure x)
    (h : tLc wi g tt te (own.map (·.2)) τ Hx Q)
    (hRR : ∀ D C sh' mv Hx', Inv X pz τ Hx' sh' → Q (.ref D) Hx' → sh'.heap.Ns C mv → FpOk X pz Hx' C → compPost (model X.prog X.w) X.A X.xe use Qf (.ref D) C (.ok .next) sh') :
    wpAny (model X.prog X.w) X.A (comprehension (.ListComp elt [⟨tg, iter, ifs, 0⟩] scope pos) scope X.env pos' (newList []) false (eval iter X.env) use) Qf X.xe s := by
  have hfree : ∀ yv ∈ scope.names, yv.2 = .free → ∃ cv, X.env.cells.lookup yv.1 = some cv := fun yv hy ev => by
    rcases ok.free yv hy ev with kv | kv
    · exact Iw.ok.has _ (.inl kv)
    · exact Iw.ok.has _ (.inr kv)
  refine wpAny_comprehension_free (use := use) rfl hsv (closure_ok hfree) ok.kind (fun yv hy ev => by rw [ok.uniq yv hy, ev])
    (thn (hi.run pz s τ Hx _ Iw h) fun xv sh1 hxv => thn hxv fun itv sh2 hv2 => ?_)
  obtain ⟨itr, fp, tn, Jv, Hx2, ev, Iw2, T, svt2, fv2, qv⟩ := hv2
  subst ev
  refine wpAny_newObj_type (newEnv_comp ?_) (by show 0 ≤ sizeLine; decide)
  generalize hD : sh2.heap.objs.size = D
  have hDn : Hx2 D = none := Iw2.hok.fresh (Nat.le_of_eq hD)
  obtain ⟨W, ⟨m0, wv0⟩, turn⟩ := qv D hDn
  -- the new list
  generalize hs3 : ({ sh2 with heap := sh2.heap.push { cls := .type "list", data := .seq ([] : List Value).toArray } } : Shared) = sh3
  have Iw3 : Inv X pz τ (upd Hx2 D (.lst [])) sh3 := by
    rw [← hs3]
    refine Iw2.laid (t' := sh2.toks) (fun bv ov ev => Heap.get?_push_of_some _ ev) (Nat.le_of_eq hD) ⟨Nat.zero_le _, [], 0, .nil, ?_⟩
    rw [← hD]
    exact Heap.get?_push_size _ rfl
  have hv3 : sh3.heap = sh2.heap.push { cls := .type "list", data := .seq ([] : List Value).toArray } := by rw [← hs3]
  have szv : ∀ bv ∈ fp, bv < sh2.heap.objs.size := fun bv hbv => by
    obtain ⟨ov, ev, _⟩ := T.obj _ _ svt2 bv hbv
    exact Heap.lt_size ev
  have fv3 : ∀ bv ∈ fp, FpOk X pz (upd Hx2 D (.lst [])) bv ∧ bv < sh3.heap.objs.size := fun bv hbv => by
    have hlt := szv bv hbv
    refine ⟨⟨?_, (fv2 bv hbv).2⟩, by rw [hv3, Heap.size_push]; exact Nat.lt_succ_of_lt hlt⟩
    rw [upd_ne (by rw [← hD]; exact Nat.ne_of_lt hlt)]
    exact (fv2 bv hbv).1
  have svt3 : tn 0 sh3.heap := T.keep _ _ _ svt2 fun bv _ ov ev => by rw [hv3]; exact Heap.get?_push_of_some _ ev
  have Iw40 := block_start Iw3 ok hN fv3
  have Iw4 : Inv (X.blk sh3 (upd Hx2 D (.lst [])) scope (compEnvC scope (cellsFrom (sh3.heap.objs.size + 1) scope.names (cloFrom X.env.cells scope.names [])) sh3.heap.objs.size X.env) fp) [hp] (wipe τ (own.map (·.2))) (upd Hx2 D (.lst [])) { sh3 with heap := pushCells (sh3.heap.push { cls := .type "dict", data := .dict #[] }) scope.names } := pin_more Iw40 (blk_pin Iw3 (List.mem_append_left _ hpm) (fun bv ov ev => pushCells_keeps _ _ _ _ (Heap.get?_push_of_some _ ev)))
  have pgv := hg sh3 (upd Hx2 D (.lst [])) sh3.heap.objs.size (cellsFrom (sh3.heap.objs.size + 1) scope.names (cloFrom X.env.cells scope.names [])) fp
  have ptv := ht sh3 (upd Hx2 D (.lst [])) sh3.heap.objs.size (cellsFrom (sh3.heap.objs.size + 1) scope.names (cloFrom X.env.cells scope.names [])) fp
  have pev := he sh3 (upd Hx2 D (.lst [])) sh3.heap.objs.size (cellsFrom (sh3.heap.objs.size + 1) scope.names (cloFrom X.env.cells scope.names [])) fp
  show codeAny _ _ (.compStart (.ListComp elt [⟨tg, iter, ifs, 0⟩] scope pos) 0 (.ref itr) (.ref D) (compEnvC scope (cellsFrom (sh3.heap.objs.size + 1) scope.names (cloFrom X.env.cells scope.names [])) sh3.heap.objs.size X.env)) (compPost (model X.prog X.w) X.A X.xe use Qf (.ref D) sh3.heap.objs.size) { sh3 with heap := pushCells (sh3.heap.push { cls := .type "dict", data := .dict #[] }) scope.names }
  have nfp : ∀ bv ∈ fp, (upd Hx2 D (.lst [])) bv = none := fun bv hbv => (fv3 bv hbv).1.1
  generalize hce : compEnvC scope (cellsFrom (sh3.heap.objs.size + 1) scope.names (cloFrom X.env.cells scope.names [])) sh3.heap.objs.size X.env = ce at Iw4 pgv ptv pev ⊢
  have cL : ce.locals = sh3.heap.objs.size := by subst hce; rfl
  generalize hH3 : upd Hx2 D (.lst []) = Hx3 at Iw3 Iw4 pgv ptv pev wv0 nfp fv3
  generalize hs4 : ({ sh3 with heap := pushCells (sh3.heap.push { cls := .type "dict", data := .dict #[] }) scope.names } : Shared) = sh4 at Iw4 ⊢
  have svt4 : tn 0 sh4.heap := T.keep _ _ _ svt3 fun bv _ ov ev => by rw [← hs4]; exact pushCells_keeps _ _ _ _ (Heap.get?_push_of_some _ ev)
  have stat : ∀ {τ' : L2.St} {Hx' : Hp} {sh' : Shared}, Inv (X.blk sh3 Hx3 scope ce fp) [hp] τ' Hx' sh' → (∀ bv ∈ fp, Hx' bv = none) → ∀ bv ∈ fp, FpOk (X.blk sh3 Hx3 scope ce fp) [hp] Hx' bv := fun {τ' Hx' sh'} Iw' hn bv hbv =>
    ⟨hn bv hbv, (Iw'.ok.exf bv hbv).1, Iw'.ok.exfs bv hbv, .inl hbv, fun x cv ev => (Iw'.ok.exf bv hbv).2 x cv ev, fun qv hqv => by
      have ev : qv = hp := by simpa using (show qv ∈ ([] : List (Addr × Obj)) ++ [hp] from hqv)
      rw [ev]
      exact (fv2 bv hbv).2.2.2.2.2 hp (List.mem_append_left _ hpm)⟩
  have loopv : codeAny (model X.prog X.w) X.A (.compLoop (.ListComp elt [⟨tg, iter, ifs, 0⟩] scope pos) 0 (.ref itr) (.ref D) ce) (compPost (model X.prog X.w) X.A X.xe use Qf (.ref D) sh3.heap.objs.size) sh4 := by
    refine compLoop_any (fun n sh' => ∃ i Hx', Inv (X.blk sh3 Hx3 scope ce fp) [hp] (wipe τ (own.map (·.2))) Hx' sh' ∧ tn i sh'.heap ∧ (∀ bv ∈ fp, Hx' bv = none) ∧ W i n Hx') ?_ m0 ⟨0, Hx3, Iw4, svt4, nfp, wv0⟩
    rintro n sh5 ⟨i, Hx5, Iw5, svt5, nv5, wv5⟩
    rcases turn i n Hx5 wv5 with ⟨stopv, qqv⟩ | ⟨gov, Nx, hNx, stepv⟩
    · have td := T.done (X.blk sh3 Hx3 scope ce fp) rfl rfl rfl hp hc i [hp] (by simp) sh5 _ Hx5 (fun _ _ => False) Iw5 (stat Iw5 nv5) svt5 stopv
      refine thnF td fun r sh6 ⟨hr, Iw6⟩ => ?_
      subst hr
      -- back in the def's context
      have Iw7 : Inv X pz τ Hx5 sh6 := Iw3.call' (ch := fp) Iw6.os Iw6.base Iw6.hok Iw6.bare fun bv hbv => ⟨(fv3 bv hbv).1.2.2.2.1, (fv3 bv hbv).1.2.1, (fv3 bv hbv).1.2.2.2.2.1, (fv3 bv hbv).1.2.2.2.2.2⟩
      have nC : Hx5 sh3.heap.objs.size = none := by
        have zv : Hx5 ce.locals = none := Iw6.free
        rw [cL] at zv
        exact zv
      obtain ⟨mv, hn, _⟩ := Iw6.loc
      have hn : sh6.heap.Ns ce.locals mv := hn
      rw [cL] at hn
      exact hRR D sh3.heap.objs.size sh6 mv Hx5 Iw7 qqv hn (Iw3.fpOk (Nat.le_refl _) nC)
    · have ti := T.item (X.blk sh3 Hx3 scope ce fp) rfl rfl rfl hp hc i [hp] (by simp) sh5 _ Hx5 (fun _ _ => False) Iw5 (stat Iw5 nv5) svt5 gov
      refine thnF ti fun r sh6 ⟨uv, hr, hv6⟩ => ?_
      subst hr
      refine thnF hv6 fun _ sh7 ⟨x, Hx7, Iw7, rv7, yv7, svt7, nv7⟩ => ?_
      have Iw7' := Iw7.pinned (stat Iw7 nv7) (T.obj _ _ svt7)
      refine thnF (pgv.run _ sh7 _ Hx7 x uv _ Iw7' rv7 (stepv x Hx7 yv7)) fun _ sh8 ⟨τ8, Hx8, Iw8, hw8, qv8⟩ => ?_
      refine thnF (ptv.run _ sh8 τ8 Hx8 _ Iw8 qv8) fun bv sh9 ⟨Hx9, Iw9, qv9⟩ => ?_
      -- the turn's end
      have finv : ∀ {sh' : Shared} {Hx' : Hp}, Inv (X.blk sh3 Hx3 scope ce fp) ([hp] ++ pinsAt fp sh7.heap) τ8 Hx' sh' → Nx Hx' → ∃ mv, mv < n ∧ ∃ i Hx', Inv (X.blk sh3 Hx3 scope ce fp) [hp] (wipe τ (own.map (·.2))) Hx' sh' ∧ tn i sh'.heap ∧ (∀ bv ∈ fp, Hx' bv = none) ∧ W i mv Hx' := fun {sh' Hx'} Iw' nx => by
        obtain ⟨mv', hmv, w'⟩ := hNx Hx' nx
        have pin' : ∀ bv ∈ fp, ∀ ov, sh7.heap.get? bv = some ov → sh'.heap.get? bv = some ov ∧ Hx' bv = none := fun bv hbv ov ev =>
          let zv := Iw'.pin (bv, ov) (List.mem_append_right _ (List.mem_append_right _ (mem_pinsAt hbv ev)))
          ⟨zv.1, zv.2.1⟩
        have hlv : (wipe τ (own.map (·.2))).length = τ8.length := by rw [← hw8, wipe_length]
        refine ⟨mv', hmv, i + 1, Hx', (Iw'.unpinned (pins := [hp])).weak hlv (fun j v ev => ?_), T.keep _ _ _ svt7 fun bv hbv ov ev => (pin' bv hbv ov ev).1, fun bv hbv => ?_, w'⟩
        · rw [← hw8] at ev
          exact (wipe_some ev).1
        · obtain ⟨ov, ev, _⟩ := T.obj _ _ svt7 bv hbv
          exact (pin' bv hbv ov ev).2
      cases bv with
      | false =>
        simp only [Bool.false_eq_true, if_false] at qv9 ⊢
        exact finv Iw9 qv9
      | true =>
        simp only [if_true] at qv9 ⊢
        refine thnF (pev.run _ sh9 τ8 Hx9 _ Iw9 qv9) fun zv sh10 ⟨yv, Hx10, Iw10, r10, accv, hD10, hz10, nx⟩ => ?_
        exact app_ok (X := X.blk sh3 Hx3 scope ce fp) Iw10 hD10 hz10 r10 fun sh11 Iw11 => finv Iw11 nx
  exact codeAny_compStart_list loopv (T.self X.A 0 _ _ _ svt4 loopv)
theorem pe_lcH {elt tg iter : Expr} {ifs : List Expr} {scope : Scope} {own : List (Str × Nat)} {pos : Pos} {wi : TI} {g : TG} {tt : TT} {te : TE} {hp : Addr × Obj} (hc : Hot1 X.A hp) (hpm : hp ∈ X.pn) (hN : X.N.Nodup) (hi : PIE1 X tg iter wi) (ok : BlkOk X.N X.env.scope scope own)
    (hg : ∀ (s : Shared) (Hx : Hp) (C : Addr) (cl : List (Str × Addr)) (fp : List Addr), PG (X.blk s Hx scope (compEnvC scope cl C X.env) fp) tg g) (ht : ∀ (s : Shared) (Hx : Hp) (C : Addr) (cl : List (Str × Addr)) (fp : List Addr), PTs (X.blk s Hx scope (compEnvC scope cl C X.env) fp) ifs tt)
    (he : ∀ (s : Shared) (Hx : Hp) (C : Addr) (cl : List (Str × Addr)) (fp : List Addr), PE (X.blk s Hx scope (compEnvC scope cl C X.env) fp) elt te) (hsv : ∀ x, foldedSetIterable iter X.env x = pure x := by intro _; rfl) :
    PE X (.ListComp elt [⟨tg, iter, ifs, 0⟩] scope pos) (tLc wi g tt te (own.map (·.2))) := by
  refine ⟨fun pz s τ Hx Q Iw h => ?_⟩
  rw [eval_ListComp]
  refine hot_core hc hpm hN Iw hi ok hg ht he hsv h fun D C sh' mv Hx' Iw' qv hn f => ⟨mv, hn, fun h'' sbv => ?_⟩
  obtain ⟨fv0, fv1, fv2, fv3, fv4, fv5⟩ := f
  exact ⟨.ref D, Hx', Iw'.turned (t' := sh'.toks) (fun bv ov hbv ev => (sbv.2 bv hbv).trans ev) fv0 fv1 fv3 fv4 fv5, rfl, qv⟩
end
end FhH

set_option Elab.async false
set_option linter.all false
set_option maxRecDepth 100000
set_option maxHeartbeats 4000000
namespace FhH
open PySem PySem.Spec PyProof.Rows L2 L2H HotX
/-! ### a def that is called in an except suite and knows the exception -/
structure FnE (P : Program) (w : World) (K : PySem.W.Frag) (mg : Str → Option Value) (base : Heap) (CX : CXT) (kv : Nat) (f : Addr) (fd : FuncData) (ps : List Str) (sp : Addr × Obj → Sp) : Prop where
  len : ∀ p vsv Hx Q E, sp p vsv Hx Q E → vsv.length = ps.length
  run : ∀ (A : Around) (outer : List Env) (s : Shared) (Hx : Hp) (args : Args) (usv : List Value) (vsv : List V) (Q : VK) (E : XK) (p : Addr × Obj), RoomH kv A → Hot1 A p → PinOk outer Hx s p → Env0 P w K mg base A outer s Hx → BindsTo s fd args (ps.zip usv) → Vals vsv usv → sp p vsv Hx Q E →
    codeAny (model P w) A (.call (.ref f) args) (CR CX outer P w Hx s Q E) s
theorem fn_ofE {CX : CXT} {P : Program} {w : World} {K : PySem.W.Frag} {mg : Str → Option Value} {base : Heap} {kv : Nat} {f : Addr} {name qual : Str} {params : Arguments} {body : List Stmt} {scope : Scope} {dV kV doc pm cdv ct ocv : Value} {an odv : Option Addr}
    {oslv : Array (Option Value)} {N ps : List Str} {sp : Addr × Obj → Sp} (lkv : K.lookup f = some ⟨ocv, odv, .func (PySem.W.fnOf name qual params body scope dV kV doc pm an cdv ct), oslv⟩) (hcdv : PySem.W.codeIn K cdv qual = true) (S : FnScope N ps scope)
    (len : ∀ p vsv Hx Q E, sp p vsv Hx Q E → vsv.length = ps.length)
    (hbody : ∀ (A : Around) (outer : List Env) (s : Shared) (Hx : Hp) (vsv : List V) (Q : VK) (E : XK) (p : Addr × Obj), Hot1 A p → RoomH kv (A.deeper (envOfC qual scope s.heap.objs.size f cdv)) → sp p vsv Hx Q E →
      ∃ t, PSs (cxH CX P w K mg base N qual scope f cdv A outer s Hx E p) body t ∧ t { nx := fun _ Hx' => Q .non Hx', rt := Q } (L2.start N vsv) Hx) :
    FnE P w K mg base CX (kv + 1) f (PySem.W.fnOf name qual params body scope dV kV doc pm an cdv ct) ps sp := by
  refine ⟨len, fun A outer s Hx args usv vsv Q E p hr hotv hpin ev0 hbv r hsp => ?_⟩
  have hlv := len _ _ _ _ _ hsp
  have KXv : K.In s.heap := ev0.mod.kin.keeps fun bv ov ev => (ev0.bs bv ov ev).1
  have limv : s.heap.NoLimit := ev0.mod.nolimit.keeps fun bv ov ev => (ev0.bs bv ov ev).1
  have hkind : ∀ yv ∈ ps.zip usv, scope.names.lookup yv.1 = some .local ∨ (scope.names.lookup yv.1 = some .cell ∧ ((cellsFrom (s.heap.objs.size + 1) scope.names []).lookup yv.1).isSome = true) := fun ⟨n, v⟩ hy => by
    rcases S.par n (List.of_mem_zip hy).1 with qv | qv
    · exact .inl qv
    · exact .inr ⟨qv, PySem.W.cellsFrom_some _ _ _ (.inl qv)⟩
  refine codeAny_call_function hr.depth (KXv _ _ lkv) rfl S.co S.gen rfl (PySem.W.codeRec_of KXv hcdv) (hbv _ _ _ _ ?_)
  refine wpAny_newFunctionEnv_cells S.kind hkind fun env he sh1 x => ?_
  subst he
  refine ⟨limv.keeps x.toInCall.keep, codeAny_func ?_⟩
  obtain ⟨t, ht, hqv⟩ := hbody A outer s Hx vsv Q E p hotv (hr.deeper _) hsp
  have Iw : Inv (cxH CX P w K mg base N qual scope f cdv A outer s Hx E p) [] (L2.start N vsv) Hx sh1 := inv_startH S hpin ev0 hlv r x
  refine wpAny_mono (ht.run [] sh1 (L2.start N vsv) Hx _ Iw hqv) (fun flv sh' hsv => ?_) fun ev sh' hsv => hsv
  have finv : ∀ {τ' : L2.St} {Hx' : Hp} {v : V} {uv : Value}, Inv (cxH CX P w K mg base N qual scope f cdv A outer s Hx E p) [] τ' Hx' sh' → RelV v uv → Q v Hx' → CE outer P w Hx s Q uv sh' :=
    fun {τ' Hx' v uv} Jv rvv qv => ⟨v, Hx', Jv.os, Jv.bare, Jv.base, Jv.hok, rvv, qv⟩
  cases flv with
  | ret uv =>
    obtain ⟨v, τ', Hx', Jv, rvv, qv⟩ := hsv
    exact finv Jv rvv qv
  | next =>
    obtain ⟨τ', Hx', Jv, qv⟩ := hsv
    exact finv (v := V.non) (uv := Value.none) Jv rfl qv
  | brk =>
    obtain ⟨_, _, _, qv⟩ := hsv
    exact False.elim qv
  | cont =>
    obtain ⟨_, _, _, qv⟩ := hsv
    exact False.elim qv

section
variable {X : Cx} {CX : CXT} {kv : Nat} {f C : Addr} {fd : FuncData} {ps : List Str} {sp : Addr × Obj → Sp} {E : L2.St → XK} {x mv : Str} {qv pos apos : Pos} {ev ov : Expr} {esv : List Expr} {ta : TE} {t : TA}
theorem run_fnE {pz : List (Addr × Obj)} {τ : L2.St} {Hx : Hp} {s : Shared} {Q : VK} {usv : List Value} {vsv : List V} (F : FnE X.prog X.w X.K X.mg X.base CX kv f fd ps sp) (hr : RoomH kv X.A) {hp : Addr × Obj} (hc : Hot1 X.A hp) (hpm : hp ∈ X.pn) (hbv : Binds X.K fd ps []) (hxv : PassesAt CX X τ (E τ))
    (Iw : Inv X pz τ Hx s) (r : Vals vsv usv) (h : sp hp vsv Hx Q (E τ)) : wpAny (model X.prog X.w) X.A (call (.ref f) usv) (EP X pz τ Q) X.xe s := by
  have hlv : usv.length = ps.length := by rw [← r.length]; exact F.len _ _ _ _ _ h
  have bv := hbv s usv Iw.kIn (by rw [List.append_nil]; exact hlv)
  rw [List.append_nil] at bv
  have P1 := Iw.pin hp (List.mem_append_left _ hpm)
  have hpin : PinOk X.stack Hx s hp := ⟨P1.1, P1.2.1, fun hmv => (List.mem_cons.mp (Iw.stkSub hp.1 hmv)).elim P1.2.2.1 P1.2.2.2.1, P1.2.2.2.2⟩
  refine wpAny_call (codeAny_mono (F.run X.A X.stack s Hx ⟨usv, []⟩ usv vsv Q (E τ) hp hr hc hpin Iw.env0 bv r h) fun r sh' hqv => ?_)
  cases r with
  | error ev => exact hxv pz Hx s ev sh' Iw hqv
  | ok flv =>
    cases flv with
    | ret uv => exact Iw.after hqv
    | next => exact False.elim hqv
    | brk => exact False.elim hqv
    | cont => exact False.elim hqv
theorem pe_callE (F : FnE X.prog X.w X.K X.mg X.base CX kv f fd ps sp) (hr : RoomH kv X.A) {hp : Addr × Obj} (hc : Hot1 X.A hp) (hpm : hp ∈ X.pn) (hg : Gl X x) (hmv : X.mg x = some (.ref f)) (hk : PySem.W.keepIn X.K (.ref f) = true) (hbv : Binds X.K fd ps []) (hxv : ∀ τ, PassesAt CX X τ (E τ))
    (ha : PA X (ev :: esv) t) (hdb : (x == ("__debug__" : Str)) = false := by decide) (he : starEach (ev :: esv) X.env = (false, eval ev X.env) :: starEach esv X.env := by rfl) (hpl : (backTo pos (starEach esv X.env)).any (·.1) = false := by rfl) :
    PE X (.Call (.Name x qv) (ev :: esv) [] pos) (tCallS (sp hp) E t) := by
  refine ⟨fun pz s τ Hx Q Iw h => ?_⟩
  refine wpAny_Call_Name_kw (ld_glob Iw hg hmv ?_ hdb)
  refine PySem.W.callWith_K (h₀ := X.base) Iw.ok.mod.kin hk (thn (ha.run pos pz s τ Hx _ Iw h) fun usv sh1 ⟨vsv, Hx1, Iw1, r, qv⟩ => ⟨Iw1.kIn, ?_⟩) he hpl
  exact run_fnE F hr hc hpm hbv (hxv τ) Iw1 r qv
end
/-- isinstance(ev, C), ev the exception that is handled -/
theorem call_isH {X : Cx} {p : Addr × Obj} {D : Addr} (hmv : p ∈ X.pn) (C : ExcC X.K D) (hzv : Zc (.ref D) none p.2) (hf : ∃ vsv, p.2.data = .fields vsv) : CallR X (.builtin "isinstance") (rIsE X.K D p.1) := by
  intro pz s τ Hx xs usv Q Iw r h
  obtain ⟨cv, cv, bv, rfl, hcv, ev, qv⟩ := h
  obtain ⟨a, oev⟩ := p
  cases r with
  | cons rxv rr =>
    cases rr with
    | cons rt rr =>
      cases rr
      cases rxv
      have ec := hcv _ rt
      subst ec
      obtain ⟨hget, _⟩ := Iw.pin (a, oev) (List.mem_append_left _ hmv)
      obtain ⟨vsv, hv⟩ := hf
      have Jv : PySem.W.InstAt s.heap a oev D none := by
        obtain ⟨ocv, odv, odav, oslv⟩ := oev
        obtain ⟨hv1, hv2⟩ := hzv
        dsimp only at hv1 hv2 hv
        subst hv1 hv2 hv
        exact ⟨hget, rfl, rfl, trivial⟩
      exact PySem.W.kia_one (PySem.W.handS_kitx_exc C.hg C.hk C.hs C.hd C.ha C.hn C.ht C.hm) Iw.kIn Jv ev (fun zv => nomatch zv) fun tkv => ⟨.bl bv, Hx, Iw.kept (t' := tkv) fun _ _ zv => zv, rfl, qv⟩
end FhH

set_option Elab.async false
set_option linter.all false
set_option maxRecDepth 100000
set_option maxHeartbeats 4000000
namespace Fh
open PySem PySem.Spec L2 FhR FhH L2H
open Fm (Th Hs StD Wd Er HG HB HSm Sts SZ Inq Lt Ab WG ArrOk)
/-! ### the class of a refusal -/
def exName : Er → Str
  | .noHouse => "NoHouse" | .notHeld => "NotHeld" | .notNear => "NotNear" | .missing => "Missing" | .noWeight => "NoWeight" | .noLetter => "NoLetter" | .noInquiry => "NoInquiry" | .noRow => "NoRow"
def codeE : Er → Nat
  | .noHouse => 0 | .notHeld => 1 | .notNear => 2 | .missing => 3 | .noWeight => 4 | .noLetter => 5 | .noInquiry => 6 | .noRow => 7
theorem exn_eq (K : PySem.W.Frag) (e : Er) : exn K e = .ref (He.ga K (exName e)) := by cases e <;> rfl
structure TX (K : PySem.W.Frag) (mg : Str → Option Value) : Prop where
  t : Tx K mg
  x : ex K = true
theorem exName_mem (e : Er) : exName e ∈ excNames := by cases e <;> decide +kernel
section
variable {K : PySem.W.Frag} {mg : Str → Option Value}
theorem TX.one (X : TX K mg) {n : Str} (h : n ∈ excNames) : exOne K n = true := by
  have := X.x
  unfold ex at this
  rw [Bool.and_eq_true, Bool.and_eq_true] at this
  exact List.all_eq_true.mp this.1.1 n h
theorem TX.kit (X : TX K mg) {m n : Str} (hm : m ∈ excNames) (hn : n ∈ excNames) : PySem.W.kitOne K (.ref (He.ga K m)) (.ref (He.ga K n)) = some (decide (m = n)) := by
  have := X.one hm
  unfold exOne at this
  simp only [Bool.and_eq_true] at this
  exact of_decide_eq_true (List.all_eq_true.mp this.2 n hn)
theorem TX.kitV (X : TX K mg) {m : Str} (hm : m ∈ excNames) : PySem.W.kitOne K (.ref (He.ga K m)) (.type "ValueError") = some true := by
  have := X.one hm
  unfold exOne at this
  simp only [Bool.and_eq_true] at this
  exact of_decide_eq_true this.1.2
theorem TX.exc (X : TX K mg) {m : Str} (hm : m ∈ excNames) (hs : PySem.W.subIn K (.ref (He.ga K m)) (.type "BaseException") = some true) : ExcC K (He.ga K m) := by
  have h := X.one hm
  unfold exOne at h
  simp only [Bool.and_eq_true] at h
  have h2 := X.x
  unfold ex at h2
  rw [Bool.and_eq_true, Bool.and_eq_true] at h2
  exact ⟨He.eqO_ok h.1.1.1.1.1.1, He.eqO_ok h.1.1.1.1.1.2, hs, h.1.1.1.1.2, He.eqO_ok h.1.1.1.2, He.eqO_ok h2.1.2, of_decide_eq_true h2.2, of_decide_eq_true h.1.1.2⟩
theorem TX.excE (X : TX K mg) (e : Er) : ExcC K (He.ga K (exName e)) := by
  refine X.exc (exName_mem e) ?_
  have T := X.t
  cases e
  · exact T.e_NoHouse.2.2.1
  · exact T.e_NotHeld.2.2.1
  · exact T.e_NotNear.2.2.1
  · exact T.e_Missing.2.2.1
  · exact T.e_NoWeight.2.2.1
  · exact T.e_NoLetter.2.2.1
  · exact T.e_NoInquiry.2.2.1
  · exact T.e_NoRow.2.2.1
end
def OkE (P : Program) (w : World) (K : PySem.W.Frag) (mg : Str → Option Value) (base : Heap) (k : Nat) (d : He.DefD) (ps : List Str) (sp : Addr × Obj → Sp) : Prop :=
  ∃ fd, FnE P w K mg base (L2N.CX P w) k (He.fAd K d.at_) fd ps sp ∧ Binds K fd ps [] ∧ PySem.W.keepIn K (.ref (He.fAd K d.at_)) = true
theorem OkE.mk {P : Program} {w : World} {K : PySem.W.Frag} {mg : Str → Option Value} {base : Heap} {k : Nat} {d : He.DefD} {N ps : List Str} {sp : Addr × Obj → Sp} (T : Tx K mg) (i : Nat) (hi : fn[i]? = some d) (hd : d.dfl = [] ∧ d.kwd = []) (S : FnScope N ps d.scope) (len : ∀ p vs H Q E, sp p vs H Q E → vs.length = ps.length)
    (hb : ∀ (kV doc pm : Value) (an : Option Addr) (cdv ct : Value) (us : List Value), us.length = ps.length → bindArgs (PySem.W.fnOf d.name d.qual d.params d.body d.scope .none kV doc pm an cdv ct) ⟨us, []⟩ = pure (ps.zip us))
    (body : ∀ (cdv : Value) (A : Around) (outer : List Env) (s : Shared) (H : Hp) (vs : List V) (Q : VK) (E : XK) (p : Addr × Obj), Hot1 A p → RoomH k (A.deeper (PyProof.Rows.envOfC d.qual d.scope s.heap.objs.size (He.fAd K d.at_) cdv)) → sp p vs H Q E →
      ∃ t, PSs (cxH (L2N.CX P w) P w K mg base N d.qual d.scope (He.fAd K d.at_) cdv A outer s H E p) d.body t ∧ t { nx := fun _ H' => Q .non H', rt := Q } (L2.start N vs) H) : OkE P w K mg base (k + 1) d ps sp := by
  obtain ⟨fd, F⟩ := T.says.def_ i (d := d) hi
  have e1 : d.dvs K = [] := by
    unfold He.DefD.dvs
    rw [hd.1]
    rfl
  have e2 : d.kws K = [] := by
    unfold He.DefD.kws
    rw [hd.2]
    rfl
  rw [e1, e2] at F
  refine ⟨fd, ?_, F.bindsN hb, F.kp⟩
  obtain ⟨oc, od, dV, kV, doc, pm, an, cdv, ct, osl, rfl, lk, hcd, _, _⟩ := F.ex
  exact fn_ofE lk hcd S len fun A outer s H vs Q E p hot hr hsp => body cdv A outer s H vs Q E p hot hr hsp
theorem boot_ValueError : bootBuiltins "ValueError" = some (.type "ValueError") := by decide +kernel
def spClass (K : PySem.W.Frag) (p : Addr × Obj) : Sp := fun vs H Q _ => vs = [.ref p.1] ∧ ∃ e : Er, Zc (exn K e) none p.2 ∧ (∃ fs, p.2.data = .fields fs) ∧ ∀ H', Same H H' → Q (.int (codeE e)) H'
def clsB (e : Er) : List Bool := excNames.map fun n => decide (exName e = n)
section
variable {P : Program} {w : World} {K : PySem.W.Frag} {mg : Str → Option Value} {base : Heap}
theorem scClass : FnScope ["_law_e", "_law_some", "_law_one"] ["_law_e"] (defScope s_l_class) := ⟨rfl, rfl, rfl, by decide +kernel, rfl, by decide +kernel, by decide +kernel⟩
theorem ok_class (X : TX K mg) : OkE P w K mg base 1 d_l_class ["_law_e"] (spClass K) := by
  have T := X.t
  refine OkE.mk T 71 rfl ⟨rfl, rfl⟩ scClass (fun p vs H Q E h => ?_) (fun _ _ _ _ _ _ us hl => match us, hl with | [_], _ => rfl) (fun cdv A outer s H vs Q E p hot hr h => ?_)
  · obtain ⟨rfl, _⟩ := h
    rfl
  · obtain ⟨rfl, e, hz, hf, q⟩ := h
    rw [exn_eq] at hz
    have C := X.excE e
    have hE := exName_mem e
    have isK : ∀ {n : Str}, n ∈ excNames → PySem.W.kitOne K (.ref (He.ga K (exName e))) (.ref (He.ga K n)) = some (decide (exName e = n)) := fun hn => X.kit hE hn
    refine ⟨_, pss_cons (ps_set (i := 1) scClass.nd rfl (.inl rfl) (pe_lst
        (pa_cons (pe_callB (call_isH (p := p) (List.mem_singleton.mpr rfl) C hz hf) rfl T.f_isinstance PyProof.Rows.boot_isinstance (pa_cons (pv 0) (pa_cons (pe_glob (v := .ref _) rfl T.g_NoHouse rfl) pa_nil)))
        (pa_cons (pe_callB (call_isH (p := p) (List.mem_singleton.mpr rfl) C hz hf) rfl T.f_isinstance PyProof.Rows.boot_isinstance (pa_cons (pv 0) (pa_cons (pe_glob (v := .ref _) rfl T.g_NotHeld rfl) pa_nil)))
        (pa_cons (pe_callB (call_isH (p := p) (List.mem_singleton.mpr rfl) C hz hf) rfl T.f_isinstance PyProof.Rows.boot_isinstance (pa_cons (pv 0) (pa_cons (pe_glob (v := .ref _) rfl T.g_NotNear rfl) pa_nil)))
        (pa_cons (pe_callB (call_isH (p := p) (List.mem_singleton.mpr rfl) C hz hf) rfl T.f_isinstance PyProof.Rows.boot_isinstance (pa_cons (pv 0) (pa_cons (pe_glob (v := .ref _) rfl T.g_Missing rfl) pa_nil))) pa_nil))))))
      (pss_cons (ps_set (i := 1) scClass.nd rfl (.inl rfl) (pe_op op_cat (pv 1) (pe_lst
        (pa_cons (pe_callB (call_isH (p := p) (List.mem_singleton.mpr rfl) C hz hf) rfl T.f_isinstance PyProof.Rows.boot_isinstance (pa_cons (pv 0) (pa_cons (pe_glob (v := .ref _) rfl T.g_NoWeight rfl) pa_nil)))
        (pa_cons (pe_callB (call_isH (p := p) (List.mem_singleton.mpr rfl) C hz hf) rfl T.f_isinstance PyProof.Rows.boot_isinstance (pa_cons (pv 0) (pa_cons (pe_glob (v := .ref _) rfl T.g_NoLetter rfl) pa_nil)))
        (pa_cons (pe_callB (call_isH (p := p) (List.mem_singleton.mpr rfl) C hz hf) rfl T.f_isinstance PyProof.Rows.boot_isinstance (pa_cons (pv 0) (pa_cons (pe_glob (v := .ref _) rfl T.g_NoInquiry rfl) pa_nil)))
        (pa_cons (pe_callB (call_isH (p := p) (List.mem_singleton.mpr rfl) C hz hf) rfl T.f_isinstance PyProof.Rows.boot_isinstance (pa_cons (pv 0) (pa_cons (pe_glob (v := .ref _) rfl T.g_NoRow rfl) pa_nil))) pa_nil)))))))
      (pss_cons (ps_if (PW.pt (pw_or (pt_not (pt_val (pe_callB (call_isH (p := p) (List.mem_singleton.mpr rfl) C hz hf) rfl T.f_isinstance PyProof.Rows.boot_isinstance (pa_cons (pv 0) (pa_cons (pe_bltn (v := .ty "ValueError") rfl T.f_ValueError boot_ValueError rfl) pa_nil)))))
          (pw_or1 (pt_cmpR op_ne (pe_callB call_len rfl T.f_len boot_len (pa_cons (pe_lcH (hp := p) (own := [("_law_one", 2)]) (g := gName 2) (tt := tB (tVar 2)) (te := tVar 2) hot (List.mem_singleton.mpr rfl) scClass.nd (pi_listE (pv 1))
            (blkOk_by (own := [("_law_one", 2)]) (N := ["_law_e", "_law_some", "_law_one"]) (sc := defScope s_l_class) (by decide +kernel))
            (fun _ _ _ _ _ => pg_name (i := 2) scClass.nd rfl (.inl rfl)) (fun _ _ _ _ _ => pts_one (pt_val (pv 2))) (fun _ _ _ _ _ => pv 2)) pa_nil)) pe_int (nomark _)))))
        (pss_one (ps_ret (pe_un un_neg pe_int))) pss_nil)
      (pss_one (ps_ret (pe_bm PySem.F.plainAttrs_list PySem.F.slot_list_index PySem.F.type_list_index mt_index (pv 1) (pa_cons pe_bl pa_nil)))))), ?_⟩
    refine ⟨_, rfl, .ref _, .ref _, _, rfl, fun u h => h, isK (by decide +kernel), _, rfl, .ref _, .ref _, _, rfl, fun u h => h, isK (by decide +kernel), _, rfl, .ref _, .ref _, _, rfl, fun u h => h, isK (by decide +kernel), _, rfl, .ref _, .ref _, _, rfl, fun u h => h, isK (by decide +kernel), (by show 4 ≤ sizeLine; decide), fun p1 n1 => ?_⟩
    have s1 := same_new (o := .lst [.bl (decide (exName e = "NoHouse")), .bl (decide (exName e = "NotHeld")), .bl (decide (exName e = "NotNear")), .bl (decide (exName e = "Missing"))]) n1
    have e1 : upd H p1 (.lst [.bl (decide (exName e = "NoHouse")), .bl (decide (exName e = "NotHeld")), .bl (decide (exName e = "NotNear")), .bl (decide (exName e = "Missing"))]) p1 = some (.lst [.bl (decide (exName e = "NoHouse")), .bl (decide (exName e = "NotHeld")), .bl (decide (exName e = "NotNear")), .bl (decide (exName e = "Missing"))]) := upd_same
    generalize upd H p1 (.lst [.bl (decide (exName e = "NoHouse")), .bl (decide (exName e = "NotHeld")), .bl (decide (exName e = "NotNear")), .bl (decide (exName e = "Missing"))]) = H1 at s1 e1
    refine ⟨_, rfl, _, rfl, .ref _, .ref _, _, rfl, fun u h => h, isK (by decide +kernel), _, rfl, .ref _, .ref _, _, rfl, fun u h => h, isK (by decide +kernel), _, rfl, .ref _, .ref _, _, rfl, fun u h => h, isK (by decide +kernel), _, rfl, .ref _, .ref _, _, rfl, fun u h => h, isK (by decide +kernel), (by show 4 ≤ sizeLine; decide), fun p2 n2 => ?_⟩
    refine ⟨p1, p2, _, _, rfl, rfl, keepL e1 n2, upd_same, (by show 8 ≤ sizeLine; decide), fun p3 n3 => ?_⟩
    have s3 := (s1.trans (same_new (o := .lst [.bl (decide (exName e = "NoWeight")), .bl (decide (exName e = "NoLetter")), .bl (decide (exName e = "NoInquiry")), .bl (decide (exName e = "NoRow"))]) n2)).trans (same_new (o := .lst ((clsB e).map V.bl)) n3)
    have e3 : upd (upd H1 p2 (.lst [.bl (decide (exName e = "NoWeight")), .bl (decide (exName e = "NoLetter")), .bl (decide (exName e = "NoInquiry")), .bl (decide (exName e = "NoRow"))])) p3 (.lst ((clsB e).map V.bl)) p3 = some (.lst ((clsB e).map V.bl)) := upd_same
    show L2.tSeq _ _ _ _ (upd (upd H1 p2 (.lst [.bl (decide (exName e = "NoWeight")), .bl (decide (exName e = "NoLetter")), .bl (decide (exName e = "NoInquiry")), .bl (decide (exName e = "NoRow"))])) p3 (.lst ((clsB e).map V.bl)))
    generalize upd (upd H1 p2 (.lst [.bl (decide (exName e = "NoWeight")), .bl (decide (exName e = "NoLetter")), .bl (decide (exName e = "NoInquiry")), .bl (decide (exName e = "NoRow"))])) p3 (.lst ((clsB e).map V.bl)) = H3 at s3 e3
    refine ⟨_, rfl, .ty "ValueError", .type "ValueError", _, rfl, fun u h => h, X.kitV hE, _, rfl, iteF ?_⟩
    have hl8 : (clsB e).length = 8 := rfl
    refine ⟨_, rfl, p3, rfl, ⟨_, SqL.of e3⟩, fun D nD => ?_⟩
    have h3D : p3 ≠ D := ne_of_none e3 nD
    refine lc_it (walk_list (a := p3) (xs := (clsB e).map V.bl)) (fun j H' => H' = upd H3 D (.lst ((((clsB e).take j).filter id).map V.bl))) rfl (fun j H' _ z => by rw [z]; exact SqL.of (keepL e3 nD)) ?_ ?_
    · rintro j v H5 H4 hj rfl ⟨rfl, hv⟩
      obtain ⟨b, hb, rfl⟩ := map_at hv
      have et := take_succ_at hb
      refine ⟨rfl, _, rfl, b, rfl, ?_⟩
      cases b with
      | true =>
        refine iteT ⟨_, rfl, _, upd_same, ?_, ?_⟩
        · rw [List.length_map]
          have h1 := List.length_filter_le id ((clsB e).take j)
          have h2 := List.length_take_le' j (clsB e)
          exact line_lt (by omega)
        · rw [upd_upd, et, List.filter_append, List.map_append]
          rfl
      | false =>
        refine iteF ?_
        rw [et, List.filter_append]
        simp
    · rintro H4 rfl
      have hlen : (((clsB e).map V.bl).length) = 8 := by rw [List.length_map]; rfl
      have hcnt : (((clsB e).filter id).map V.bl).length = 1 := by cases e <;> decide +kernel
      rw [hlen, List.take_of_length_le (Nat.le_of_eq hl8)]
      refine ⟨_, _, rfl, .inl ⟨_, SqL.of upd_same, rfl⟩, rfl, _, rfl, ?_⟩
      rw [hcnt]
      refine iteF ⟨_, rfl, .inl ⟨rfl, _, SqL.of (keepL e3 nD)⟩, p3, _, .bl true, codeE e, .bl true, rfl, rfl, SqL.of (keepL e3 nD), rfl, ?_, ?_, rfl, fun m z' hm hz' => ?_, ?_⟩
      · cases e <;> decide +kernel
      · cases e <;> decide +kernel
      · obtain ⟨b, hb, rfl⟩ := map_at hz'
        have hall : (List.range (codeE e)).all (fun m => decide ((clsB e)[m]? = some false)) = true := by cases e <;> decide +kernel
        have h2 := of_decide_eq_true (List.all_eq_true.mp hall m (List.mem_range.mpr hm))
        rw [hb] at h2
        cases h2
        rfl
      · exact q _ (s3.trans (same_new nD))
end
end Fh

set_option Elab.async false
set_option linter.all false
set_option maxRecDepth 100000
set_option maxHeartbeats 4000000
namespace Fh
open PySem PySem.Spec L2 FhR FhH L2H
open Fm (Th Hs StD Wd Er HG HB HSm Sts SZ Inq Lt Ab WG ArrOk)
theorem PE.imp {X : Cx} {e : Expr} {t t' : TE} (h : PE X e t) (k : ∀ σ H Q, t' σ H Q → t σ H Q) : PE X e t' := ⟨fun pins s σ H Q I q => h.run pins s σ H Q I (k σ H Q q)⟩
theorem pass0 {X : Cx} (σ : L2.St) : PassesAt (L2N.CX X.prog X.w) X σ E0 := by
  intro pins H s e s' I h
  obtain ⟨_, _, _, _, _, _, _, _, _, _, _, _, z⟩ := h
  exact False.elim z
theorem takes0N {X : Cx} : L2N.Takes X (fun _ _ _ _ => False) := by
  intro u s' h
  obtain ⟨_, _, _, _, _, _, _, _, _, _, _, _, _, _, _, z⟩ := h
  exact False.elim z.2
def spCls (K : PySem.W.Frag) (a : Addr) (cls : Value) (d : Option Addr) : Sp := fun vs H Q _ => vs = [.ref a] ∧ ∃ e : Er, cls = exn K e ∧ d = none ∧ ∀ H', Same H H' → Q (.int (codeE e)) H'
def dDone (x : PyData) : PyData := .tuple [.str "done", x]
def dRef (e : Er) : PyData := .tuple [.str "refused", .int (codeE e)]
def spLSay (K : PySem.W.Frag) : Sp := fun vs H Q _ => ∃ (wid : Nat) (ow : Ow) (d ddx a : Addr) (M : Wd) (r : Row), vs = [.ref d, .str (rowS r)] ∧ H d = some (.ins (dC K) ddx (df a)) ∧ WAt K wid H ow a M ∧ Clean H ow ∧ RowOk M r ∧
  match ansR M r with
  | .ok (M', x) => ∀ H' ow' v, Frm (fun l => l.1 = wid) H ow H' ow' → WAt K wid H' ow' a M' → DV H' v (dDone (.str x)) → Q v H'
  | .error e => ∀ H' v, Same H H' → DV H' v (dRef e) → Q v H'
section
variable {P : Program} {w : World} {K : PySem.W.Frag} {mg : Str → Option Value} {base : Heap}
theorem exmE (T : Tx K mg) (e : Er) : PySem.W.exmOne K (exn K e) (.ref (He.ga K "HoldError")) = some true := by
  cases e
  · exact T.x_NoHouse
  · exact T.x_NotHeld
  · exact T.x_NotNear
  · exact T.x_Missing
  · exact T.x_NoWeight
  · exact T.x_NoLetter
  · exact T.x_NoInquiry
  · exact T.x_NoRow
theorem scLSay : FnScope ["_law_desk", "_law_row", "_law_told", "_law_e"] ["_law_desk", "_law_row"] (defScope s_l_say) := ⟨rfl, rfl, rfl, by decide +kernel, rfl, by decide +kernel, by decide +kernel⟩
theorem ok_lsay (X : TX K mg) : Ok P w K mg base 9 d_l_say ["_law_desk", "_law_row"] (spLSay K) := by
  have T := X.t
  obtain ⟨f1, F1, b1, k1⟩ := ok_say (P := P) (w := w) (base := base) T
  obtain ⟨f2, F2, b2, k2⟩ := ok_class (P := P) (w := w) (base := base) X
  refine Ok.mk T 79 rfl ⟨rfl, rfl⟩ scLSay (fun vs H Q E h => ?_) (fun _ _ _ _ _ _ us hl => match us, hl with | [_, _], _ => rfl) (fun cdv A outer s H vs Q E hr h => ?_)
  · obtain ⟨wid, ow, d, ddx, a, M, r, rfl, _⟩ := h
    rfl
  · obtain ⟨wid, ow, d, ddx, a, M, r, rfl, hd, hw, hcl, hro, q⟩ := h
    have hrH : ∀ {v : Option Value}, RoomH 1 ((A.deeper (PyProof.Rows.envOfC d_l_say.qual d_l_say.scope s.heap.objs.size (He.fAd K d_l_say.at_) cdv)).mark v) := fun {v} => by
      have h1 := roomH_of (hr.mono (show 1 ≤ 8 by decide))
      exact ⟨h1.dp, h1.un⟩
    refine ⟨_, pss_cons (ps_set (i := 2) scLSay.nd rfl (.inl rfl) (pe_tup (pa_cons pe_str (pa_cons pe_non pa_nil))))
      (pss_cons (L2N.ps_try_as (i := 3) (tb := fun W => tAsg (tTup (tCons (tC (.str "done")) (tCons (tMethS (dC K) "say" (spSay K) (WE W) (tVar 0) (tCons (tVar 1) tNil)) tNil))) (gName 2))
          (ts := fun a cls d => tAsg (tTup (tCons (tC (.str "refused")) (tCons (tCallS (spCls K a cls d) (fun _ => E0) (tCons (tVar 3) tNil)) tNil))) (gName 2)) (Wout := fun _ _ _ _ => False) rfl rfl scLSay.nd rfl rfl ⟨rfl, by decide, Or.inl T.g_HoldError⟩ takes0N
          (fun W pn xe tk _ => pss_one (ps_set (i := 2) scLSay.nd rfl (.inl rfl) (pe_tup (pa_cons pe_str (pa_cons (pe_methT (pv 0) T.c_Desk T.m_Desk_say F1 hr b1 (fun σ => L2N.passAt tk σ) (pa_cons (pv 1) pa_nil)) pa_nil)))))
          (fun a oe cls d pn hz hf => pss_one (ps_set (i := 2) scLSay.nd rfl (.inl rfl) (pe_tup (pa_cons pe_str (pa_cons (PE.imp (pe_callE (hp := (a, oe)) (E := fun _ => E0) F2 hrH ⟨rfl, by obtain ⟨vs, hv⟩ := hf; exact ⟨vs, hv, hz.2.2 vs hv⟩⟩ List.mem_cons_self rfl T.g_law_class k2 b2 pass0 (pa_cons (pv 3) pa_nil)) (fun σ H Q hq => by
            obtain ⟨v, e1, e2, e, rfl, rfl, hq⟩ := hq
            exact ⟨v, e1, e2, e, hz.zc, hf, hq⟩)) pa_nil))))))
      (pss_one (ps_ret (pv 2)))), ?_⟩
    refine ⟨(by show 2 ≤ sizeLine; decide), fun p0 n0 => ?_⟩
    have s0 := same_new (o := .tup [.str "done", .non]) n0
    generalize upd H p0 (.tup [.str "done", .non]) = H0 at s0
    refine ⟨_, rfl, d, ddx, df a, rfl, s0 _ _ hd, df_say, _, rfl, wid, ow, d, ddx, a, M, r, rfl, s0 _ _ hd, hw.same s0, cleanS hcl s0, hro, ?_⟩
    unfold RetR
    cases e : ansR M r with
    | ok r1 =>
      obtain ⟨M', x⟩ := r1
      rw [e] at q
      intro H1 ow1 f1 w1
      refine ⟨(by show 2 ≤ sizeLine; decide), fun p1 n1 => ⟨_, rfl, ?_⟩⟩
      exact q _ ow1 _ ((frmS hcl s0 f1).new n1) (w1.same (same_new n1)) (.tup upd_same (.cons (.str _) (.cons (.str _) .nil)))
    | error er =>
      rw [e] at q
      intro H1 s1
      refine ⟨true, exmE T er, fun _ b hb => ?_, fun z => by cases z⟩
      refine ⟨_, rfl, rfl, er, rfl, rfl, fun H2 s2 => ?_⟩
      refine ⟨(by show 2 ≤ sizeLine; decide), fun p1 n1 => ⟨_, rfl, ?_⟩⟩
      exact q _ _ (((s0.trans s1).trans s2).trans (same_new n1)) (.tup upd_same (.cons (.str _) (.cons (.int _) .nil)))
end
end Fh

set_option Elab.async false
set_option linter.all false
set_option maxRecDepth 100000
set_option maxHeartbeats 4000000
namespace Fh
open PySem PySem.Spec L2 FhR FhH L2H
open Fm (Th Hs StD Wd Er HG HB HSm Sts SZ Inq Lt Ab WG ArrOk)
/-- a row as a tuple -/
def dRow (r : Row) : PyData := .tuple (.str (rowW r) :: (rowP r).map pcD)
def isAct (r : Row) : Bool := isDeed r || isLett r
def spDone (K : PySem.W.Frag) : Sp := fun vs H Q _ => ∃ (wid : Nat) (ow : Ow) (a : Addr) (v : V) (M : Wd) (r : Row), vs = [.ref a, v] ∧ DV H v (dRow r) ∧ isAct r = true ∧ WAt K wid H ow a M ∧ Clean H ow ∧ RowOk M r ∧
  match ansR M r with
  | .ok (M', _) => ∀ H' ow' p vx, Frm (fun l => l.1 = wid) H ow H' ow' → WAt K wid H' ow' a M' → H' p = some (.tup [.str "done", vx]) → Q (.ref p) H'
  | .error _ => ∀ H' p vx, Same H H' → H' p = some (.tup [.str "refused", vx]) → Q (.ref p) H'
section
variable {P : Program} {w : World} {K : PySem.W.Frag} {mg : Str → Option Value} {base : Heap}
theorem scDone : FnScope ["_law_world", "_law_deed_here", "_law_told", "_law_e"] ["_law_world", "_law_deed_here"] (defScope s_l_done) := ⟨rfl, rfl, rfl, by decide +kernel, rfl, by decide +kernel, by decide +kernel⟩
theorem ok_done (X : TX K mg) : Ok P w K mg base 7 d_l_done ["_law_world", "_law_deed_here"] (spDone K) := by
  have T := X.t
  obtain ⟨f1, F1, b1, k1⟩ := ok_class (P := P) (w := w) (base := base) X
  obtain ⟨f2, F2, b2, k2⟩ := ok_wmake (P := P) (w := w) (base := base) T
  obtain ⟨f3, F3, b3, k3⟩ := ok_whold (P := P) (w := w) (base := base) T
  obtain ⟨f4, F4, b4, k4⟩ := ok_wdrop (P := P) (w := w) (base := base) T
  obtain ⟨f5, F5, b5, k5⟩ := ok_wtake (P := P) (w := w) (base := base) T
  obtain ⟨f6, F6, b6, k6⟩ := ok_wfree (P := P) (w := w) (base := base) T
  obtain ⟨f7, F7, b7, k7⟩ := ok_send (P := P) (w := w) (base := base) T
  obtain ⟨f8, F8, b8, k8⟩ := ok_wclean (P := P) (w := w) (base := base) T
  obtain ⟨f9, F9, b9, k9⟩ := ok_ask (P := P) (w := w) (base := base) T
  obtain ⟨f10, F10, b10, k10⟩ := ok_deliver (P := P) (w := w) (base := base) T
  refine Ok.mk T 76 rfl ⟨rfl, rfl⟩ scDone (fun vs H Q E h => ?_) (fun _ _ _ _ _ _ us hl => match us, hl with | [_, _], _ => rfl) (fun cdv A outer s H vs Q E hr h => ?_)
  · obtain ⟨wid, ow, a, v, M, r, rfl, _⟩ := h
    rfl
  · obtain ⟨wid, ow, a, v, M, r, rfl, dv, hk, ⟨x0, hw⟩, hcl, hro, q⟩ := h
    obtain ⟨pd, ws, rfl, epd, dws⟩ := DV.tupE dv
    obtain ⟨vw, ws, rfl, dvw, dwt⟩ := dws.consE
    cases dvw.strE
    have hrH : ∀ {v : Option Value}, RoomH 1 ((A.deeper (PyProof.Rows.envOfC d_l_done.qual d_l_done.scope s.heap.objs.size (He.fAd K d_l_done.at_) cdv)).mark v) := fun {v} => by
      have h1 := roomH_of (hr.mono (show 1 ≤ 6 by decide))
      exact ⟨h1.dp, h1.un⟩
    refine ⟨_, pss_cons (ps_set (i := 2) scDone.nd rfl (.inl rfl) (pe_tup (pa_cons pe_str (pa_cons pe_non pa_nil))))
      (pss_cons (L2N.ps_try_as (i := 3) (tb := fun W => (tIfS (tTest (tOp rEq (tOp (rIxT K) (tVar 1) (tC (.int 0))) (tC (.str "make")))) (tAsg (tTup (tCons (tC (.str "done")) (tCons (tMethS (wC K) "make" (spWMake K) (WE W) (tVar 0) (tCons (tOp (rIxT K) (tVar 1) (tC (.int 1))) tNil)) tNil))) (gName 2)) (tIfS (tTest (tOp rEq (tOp (rIxT K) (tVar 1) (tC (.int 0))) (tC (.str "hold")))) (tAsg (tTup (tCons (tC (.str "done")) (tCons (tMethS (wC K) "hold" (spWDeed2 K Wd.hold) (WE W) (tVar 0) (tCons (tOp (rIxT K) (tVar 1) (tC (.int 1))) (tCons (tOp (rIxT K) (tVar 1) (tC (.int 2))) (tCons (tOp (rIxT K) (tVar 1) (tC (.int 3))) tNil)))) tNil))) (gName 2)) (tIfS (tTest (tOp rEq (tOp (rIxT K) (tVar 1) (tC (.int 0))) (tC (.str "drop")))) (tAsg (tTup (tCons (tC (.str "done")) (tCons (tMethS (wC K) "drop" (spWDeed2 K Wd.drop) (WE W) (tVar 0) (tCons (tOp (rIxT K) (tVar 1) (tC (.int 1))) (tCons (tOp (rIxT K) (tVar 1) (tC (.int 2))) (tCons (tOp (rIxT K) (tVar 1) (tC (.int 3))) tNil)))) tNil))) (gName 2)) (tIfS (tTest (tOp rEq (tOp (rIxT K) (tVar 1) (tC (.int 0))) (tC (.str "take")))) (tAsg (tTup (tCons (tC (.str "done")) (tCons (tMethS (wC K) "take" (spWDeed2 K Wd.take) (WE W) (tVar 0) (tCons (tOp (rIxT K) (tVar 1) (tC (.int 1))) (tCons (tOp (rIxT K) (tVar 1) (tC (.int 2))) (tCons (tOp (rIxT K) (tVar 1) (tC (.int 3))) tNil)))) tNil))) (gName 2)) (tIfS (tTest (tOp rEq (tOp (rIxT K) (tVar 1) (tC (.int 0))) (tC (.str "free")))) (tAsg (tTup (tCons (tC (.str "done")) (tCons (tMethS (wC K) "free" (spWDeed1 K Wd.free) (WE W) (tVar 0) (tCons (tOp (rIxT K) (tVar 1) (tC (.int 1))) (tCons (tOp (rIxT K) (tVar 1) (tC (.int 2))) tNil))) tNil))) (gName 2)) (tIfS (tTest (tOp rEq (tOp (rIxT K) (tVar 1) (tC (.int 0))) (tC (.str "send")))) (tAsg (tTup (tCons (tC (.str "done")) (tCons (tMethS (wC K) "send" (spSend K) (WE W) (tVar 0) (tCons (tOp (rIxT K) (tVar 1) (tC (.int 1))) (tCons (tOp (rIxT K) (tVar 1) (tC (.int 2))) (tCons (tOp (rIxT K) (tVar 1) (tC (.int 3))) tNil)))) tNil))) (gName 2)) (tIfS (tTest (tOp rEq (tOp (rIxT K) (tVar 1) (tC (.int 0))) (tC (.str "clean")))) (tAsg (tTup (tCons (tC (.str "done")) (tCons (tMethS (wC K) "clean" (spWClean K) (WE W) (tVar 0) (tCons (tOp (rIxT K) (tVar 1) (tC (.int 1))) tNil)) tNil))) (gName 2)) (tIfS (tTest (tOp rEq (tOp (rIxT K) (tVar 1) (tC (.int 0))) (tC (.str "ask")))) (tAsg (tTup (tCons (tC (.str "done")) (tCons (tMethS (wC K) "ask" (spAsk K) (WE W) (tVar 0) (tCons (tOp (rIxT K) (tVar 1) (tC (.int 1))) tNil)) tNil))) (gName 2)) (tAsg (tTup (tCons (tC (.str "done")) (tCons (tMethS (wC K) "deliver" (spDeliver K) (WE W) (tVar 0) (tCons (tOp (rIxT K) (tVar 1) (tC (.int 1))) tNil)) tNil))) (gName 2)))))))))))
          (ts := fun a cls d => tAsg (tTup (tCons (tC (.str "refused")) (tCons (tCallS (spCls K a cls d) (fun _ => E0) (tCons (tVar 3) tNil)) tNil))) (gName 2)) (Wout := fun _ _ _ _ => False) rfl rfl scDone.nd rfl rfl ⟨rfl, by decide, Or.inl T.g_HoldError⟩ takes0N
          (fun W pn xe tk _ => (pss_one (ps_if (pt_cmpR op_eq (pe_ix ix_tup (pv 1) pe_int (fun _ _ => rfl)) pe_str (nomark _)) (pss_one (ps_set (i := 2) scDone.nd rfl (.inl rfl) (pe_tup (pa_cons pe_str (pa_cons (pe_methT (pv 0) T.c_World T.m_World_make F2 (hr.mono (by decide)) b2 (fun σ => L2N.passAt tk σ) (pa_cons (pe_ix ix_tup (pv 1) pe_int (fun _ _ => rfl)) pa_nil)) pa_nil))))) (pss_one (ps_if (pt_cmpR op_eq (pe_ix ix_tup (pv 1) pe_int (fun _ _ => rfl)) pe_str (nomark _)) (pss_one (ps_set (i := 2) scDone.nd rfl (.inl rfl) (pe_tup (pa_cons pe_str (pa_cons (pe_methT (pv 0) T.c_World T.m_World_hold F3 (hr.mono (by decide)) b3 (fun σ => L2N.passAt tk σ) (pa_cons (pe_ix ix_tup (pv 1) pe_int (fun _ _ => rfl)) (pa_cons (pe_ix ix_tup (pv 1) pe_int (fun _ _ => rfl)) (pa_cons (pe_ix ix_tup (pv 1) pe_int (fun _ _ => rfl)) pa_nil)))) pa_nil))))) (pss_one (ps_if (pt_cmpR op_eq (pe_ix ix_tup (pv 1) pe_int (fun _ _ => rfl)) pe_str (nomark _)) (pss_one (ps_set (i := 2) scDone.nd rfl (.inl rfl) (pe_tup (pa_cons pe_str (pa_cons (pe_methT (pv 0) T.c_World T.m_World_drop F4 (hr.mono (by decide)) b4 (fun σ => L2N.passAt tk σ) (pa_cons (pe_ix ix_tup (pv 1) pe_int (fun _ _ => rfl)) (pa_cons (pe_ix ix_tup (pv 1) pe_int (fun _ _ => rfl)) (pa_cons (pe_ix ix_tup (pv 1) pe_int (fun _ _ => rfl)) pa_nil)))) pa_nil))))) (pss_one (ps_if (pt_cmpR op_eq (pe_ix ix_tup (pv 1) pe_int (fun _ _ => rfl)) pe_str (nomark _)) (pss_one (ps_set (i := 2) scDone.nd rfl (.inl rfl) (pe_tup (pa_cons pe_str (pa_cons (pe_methT (pv 0) T.c_World T.m_World_take F5 (hr.mono (by decide)) b5 (fun σ => L2N.passAt tk σ) (pa_cons (pe_ix ix_tup (pv 1) pe_int (fun _ _ => rfl)) (pa_cons (pe_ix ix_tup (pv 1) pe_int (fun _ _ => rfl)) (pa_cons (pe_ix ix_tup (pv 1) pe_int (fun _ _ => rfl)) pa_nil)))) pa_nil))))) (pss_one (ps_if (pt_cmpR op_eq (pe_ix ix_tup (pv 1) pe_int (fun _ _ => rfl)) pe_str (nomark _)) (pss_one (ps_set (i := 2) scDone.nd rfl (.inl rfl) (pe_tup (pa_cons pe_str (pa_cons (pe_methT (pv 0) T.c_World T.m_World_free F6 (hr.mono (by decide)) b6 (fun σ => L2N.passAt tk σ) (pa_cons (pe_ix ix_tup (pv 1) pe_int (fun _ _ => rfl)) (pa_cons (pe_ix ix_tup (pv 1) pe_int (fun _ _ => rfl)) pa_nil))) pa_nil))))) (pss_one (ps_if (pt_cmpR op_eq (pe_ix ix_tup (pv 1) pe_int (fun _ _ => rfl)) pe_str (nomark _)) (pss_one (ps_set (i := 2) scDone.nd rfl (.inl rfl) (pe_tup (pa_cons pe_str (pa_cons (pe_methT (pv 0) T.c_World T.m_World_send F7 (hr.mono (by decide)) b7 (fun σ => L2N.passAt tk σ) (pa_cons (pe_ix ix_tup (pv 1) pe_int (fun _ _ => rfl)) (pa_cons (pe_ix ix_tup (pv 1) pe_int (fun _ _ => rfl)) (pa_cons (pe_ix ix_tup (pv 1) pe_int (fun _ _ => rfl)) pa_nil)))) pa_nil))))) (pss_one (ps_if (pt_cmpR op_eq (pe_ix ix_tup (pv 1) pe_int (fun _ _ => rfl)) pe_str (nomark _)) (pss_one (ps_set (i := 2) scDone.nd rfl (.inl rfl) (pe_tup (pa_cons pe_str (pa_cons (pe_methT (pv 0) T.c_World T.m_World_clean F8 (hr.mono (by decide)) b8 (fun σ => L2N.passAt tk σ) (pa_cons (pe_ix ix_tup (pv 1) pe_int (fun _ _ => rfl)) pa_nil)) pa_nil))))) (pss_one (ps_if (pt_cmpR op_eq (pe_ix ix_tup (pv 1) pe_int (fun _ _ => rfl)) pe_str (nomark _)) (pss_one (ps_set (i := 2) scDone.nd rfl (.inl rfl) (pe_tup (pa_cons pe_str (pa_cons (pe_methT (pv 0) T.c_World T.m_World_ask F9 (hr.mono (by decide)) b9 (fun σ => L2N.passAt tk σ) (pa_cons (pe_ix ix_tup (pv 1) pe_int (fun _ _ => rfl)) pa_nil)) pa_nil))))) (pss_one (ps_set (i := 2) scDone.nd rfl (.inl rfl) (pe_tup (pa_cons pe_str (pa_cons (pe_methT (pv 0) T.c_World T.m_World_deliver F10 (hr.mono (by decide)) b10 (fun σ => L2N.passAt tk σ) (pa_cons (pe_ix ix_tup (pv 1) pe_int (fun _ _ => rfl)) pa_nil)) pa_nil))))))))))))))))))))))
          (fun a oe cls d pn hz hf => pss_one (ps_set (i := 2) scDone.nd rfl (.inl rfl) (pe_tup (pa_cons pe_str (pa_cons (PE.imp (pe_callE (hp := (a, oe)) (E := fun _ => E0) F1 hrH ⟨rfl, by obtain ⟨vs, hv⟩ := hf; exact ⟨vs, hv, hz.2.2 vs hv⟩⟩ List.mem_cons_self rfl T.g_law_class k1 b1 pass0 (pa_cons (pv 3) pa_nil)) (fun σ H Q hq => by
            obtain ⟨v, e1, e2, e, rfl, rfl, hq⟩ := hq
            exact ⟨v, e1, e2, e, hz.zc, hf, hq⟩)) pa_nil))))))
      (pss_one (ps_ret (pv 2)))), ?_⟩
    refine ⟨(by show 2 ≤ sizeLine; decide), fun p0 n0 => ?_⟩
    have s0 := same_new (o := .tup [.str "done", .non]) n0
    generalize upd H p0 (.tup [.str "done", .non]) = H0 at s0
    have w0 := hw.same s0
    have epd0 := s0 _ _ epd
    have cl0 := cleanS hcl s0
    replace dwt := dwt.mono (Same.ts s0)
    -- the ends
    have ref : ∀ {e : Er}, ansR M r = .error e → ∀ H1, Same H0 H1 → WE (wAs K (.ref (He.ga K "HoldError")) 3 (fun a cls d => tAsg (tTup (tCons (tC (.str "refused")) (tCons (tCallS (spCls K a cls d) (fun _ => E0) (tCons (tVar 3) tNil)) tNil))) (gName 2)) (fun _ _ _ _ => False) { nx := tRet (tVar 2) { nx := fun x H' => Q .non H', rt := Q }, rt := Q }) [some (.ref a), some (.ref pd), some (.ref p0), none] (exn K e) none H1 := by
      intro e he H1 s1
      rw [he] at q
      refine ⟨true, exmE T e, fun _ b hb => ?_, fun z => by cases z⟩
      refine ⟨_, rfl, rfl, e, rfl, rfl, fun H2 s2 => ?_⟩
      refine ⟨(by show 2 ≤ sizeLine; decide), fun p1 n1 => ⟨_, rfl, ?_⟩⟩
      exact q _ _ _ (((s0.trans s1).trans s2).trans (same_new n1)) upd_same
    have okk : ∀ {M' : Wd} {x : Str}, ansR M r = .ok (M', x) → ∀ H1 ow1 vx, Frm (fun l => l.1 = wid) H0 ow H1 ow1 → WAt K wid H1 ow1 a M' → tTup (fun σ H Q => Q [.str "done", vx] H) [some (.ref a), some (.ref pd), some (.ref p0), none] H1 (fun v H' => tRet (tVar 2) { nx := fun x H' => Q .non H', rt := Q } [some (.ref a), some (.ref pd), some v, none] H') := by
      intro M' x he H1 ow1 vx f1 w1
      rw [he] at q
      refine ⟨(by show 2 ≤ sizeLine; decide), fun p1 n1 => ⟨_, rfl, ?_⟩⟩
      exact q _ ow1 p1 vx ((frmS hcl s0 f1).new n1) (w1.same (same_new n1)) upd_same
    cases r with
    | make h =>
      obtain ⟨v1, rfl, d1⟩ := one_pc dwt
      cases DV.intE d1
      refine ⟨_, rfl, _, _, _, _, rfl, rfl, SqT.of epd0, atI_nat (j := 0) rfl, rfl, _, rfl, iteT' (by kernel_rfl) ?_⟩
      refine ⟨_, rfl, a, x0.dx, _, rfl, w0.ob, wf_make, _, rfl, _, _, _, _, rfl, rfl, SqT.of epd0, atI_nat (j := 1) rfl, wid, ow, a, M, h, rfl, ⟨x0, w0⟩, cl0, hro.wg, ?_⟩
      cases e : M.make h with
      | error er => exact ref (by simp only [ansR, e]) H0 (Same.refl _)
      | ok r1 =>
        obtain ⟨M', t⟩ := r1
        exact fun H1 ow1 vx f1 w1 _ => okk (by simp only [ansR, e]; rfl) H1 ow1 vx f1 w1
    | hold h x y =>
      obtain ⟨v1, v2, v3, rfl, d1, d2, d3⟩ := three_pc dwt
      cases DV.intE d1
      refine ⟨_, rfl, _, _, _, _, rfl, rfl, SqT.of epd0, atI_nat (j := 0) rfl, rfl, _, rfl, iteF' (by kernel_rfl) ⟨_, rfl, _, _, _, _, rfl, rfl, SqT.of epd0, atI_nat (j := 0) rfl, rfl, _, rfl, iteT' (by kernel_rfl) ?_⟩⟩
      refine ⟨_, rfl, a, x0.dx, _, rfl, w0.ob, wf_hold, _, rfl, _, _, _, _, rfl, rfl, SqT.of epd0, atI_nat (j := 1) rfl, _, rfl, _, _, _, _, rfl, rfl, SqT.of epd0, atI_nat (j := 2) rfl, _, rfl, _, _, _, _, rfl, rfl, SqT.of epd0, atI_nat (j := 3) rfl, wid, ow, a, M, h, v2, v3, x, y, rfl, ⟨x0, w0⟩, cl0, hro.wg, d2, d3, ?_⟩
      unfold ResW
      cases e : M.hold h x y with
      | error er => exact ref (by simp only [ansR, ansD, e]) H0 (Same.refl _)
      | ok M' => exact fun H1 ow1 f1 w1 => okk (by simp only [ansR, ansD, e]; rfl) H1 ow1 _ f1 w1
    | drop h x y =>
      obtain ⟨v1, v2, v3, rfl, d1, d2, d3⟩ := three_pc dwt
      cases DV.intE d1
      refine ⟨_, rfl, _, _, _, _, rfl, rfl, SqT.of epd0, atI_nat (j := 0) rfl, rfl, _, rfl, iteF' (by kernel_rfl) ⟨_, rfl, _, _, _, _, rfl, rfl, SqT.of epd0, atI_nat (j := 0) rfl, rfl, _, rfl, iteF' (by kernel_rfl) ⟨_, rfl, _, _, _, _, rfl, rfl, SqT.of epd0, atI_nat (j := 0) rfl, rfl, _, rfl, iteT' (by kernel_rfl) ?_⟩⟩⟩
      refine ⟨_, rfl, a, x0.dx, _, rfl, w0.ob, wf_drop, _, rfl, _, _, _, _, rfl, rfl, SqT.of epd0, atI_nat (j := 1) rfl, _, rfl, _, _, _, _, rfl, rfl, SqT.of epd0, atI_nat (j := 2) rfl, _, rfl, _, _, _, _, rfl, rfl, SqT.of epd0, atI_nat (j := 3) rfl, wid, ow, a, M, h, v2, v3, x, y, rfl, ⟨x0, w0⟩, cl0, hro.wg, d2, d3, ?_⟩
      unfold ResW
      cases e : M.drop h x y with
      | error er => exact ref (by simp only [ansR, ansD, e]) H0 (Same.refl _)
      | ok M' => exact fun H1 ow1 f1 w1 => okk (by simp only [ansR, ansD, e]; rfl) H1 ow1 _ f1 w1
    | take h x y =>
      obtain ⟨v1, v2, v3, rfl, d1, d2, d3⟩ := three_pc dwt
      cases DV.intE d1
      refine ⟨_, rfl, _, _, _, _, rfl, rfl, SqT.of epd0, atI_nat (j := 0) rfl, rfl, _, rfl, iteF' (by kernel_rfl) ⟨_, rfl, _, _, _, _, rfl, rfl, SqT.of epd0, atI_nat (j := 0) rfl, rfl, _, rfl, iteF' (by kernel_rfl) ⟨_, rfl, _, _, _, _, rfl, rfl, SqT.of epd0, atI_nat (j := 0) rfl, rfl, _, rfl, iteF' (by kernel_rfl) ⟨_, rfl, _, _, _, _, rfl, rfl, SqT.of epd0, atI_nat (j := 0) rfl, rfl, _, rfl, iteT' (by kernel_rfl) ?_⟩⟩⟩⟩
      refine ⟨_, rfl, a, x0.dx, _, rfl, w0.ob, wf_take, _, rfl, _, _, _, _, rfl, rfl, SqT.of epd0, atI_nat (j := 1) rfl, _, rfl, _, _, _, _, rfl, rfl, SqT.of epd0, atI_nat (j := 2) rfl, _, rfl, _, _, _, _, rfl, rfl, SqT.of epd0, atI_nat (j := 3) rfl, wid, ow, a, M, h, v2, v3, x, y, rfl, ⟨x0, w0⟩, cl0, hro.wg, d2, d3, ?_⟩
      unfold ResW
      cases e : M.take h x y with
      | error er => exact ref (by simp only [ansR, ansD, e]) H0 (Same.refl _)
      | ok M' => exact fun H1 ow1 f1 w1 => okk (by simp only [ansR, ansD, e]; rfl) H1 ow1 _ f1 w1
    | free h b =>
      obtain ⟨v1, v2, rfl, d1, d2⟩ := two_pc dwt
      cases DV.intE d1
      refine ⟨_, rfl, _, _, _, _, rfl, rfl, SqT.of epd0, atI_nat (j := 0) rfl, rfl, _, rfl, iteF' (by kernel_rfl) ⟨_, rfl, _, _, _, _, rfl, rfl, SqT.of epd0, atI_nat (j := 0) rfl, rfl, _, rfl, iteF' (by kernel_rfl) ⟨_, rfl, _, _, _, _, rfl, rfl, SqT.of epd0, atI_nat (j := 0) rfl, rfl, _, rfl, iteF' (by kernel_rfl) ⟨_, rfl, _, _, _, _, rfl, rfl, SqT.of epd0, atI_nat (j := 0) rfl, rfl, _, rfl, iteF' (by kernel_rfl) ⟨_, rfl, _, _, _, _, rfl, rfl, SqT.of epd0, atI_nat (j := 0) rfl, rfl, _, rfl, iteT' (by kernel_rfl) ?_⟩⟩⟩⟩⟩
      refine ⟨_, rfl, a, x0.dx, _, rfl, w0.ob, wf_free, _, rfl, _, _, _, _, rfl, rfl, SqT.of epd0, atI_nat (j := 1) rfl, _, rfl, _, _, _, _, rfl, rfl, SqT.of epd0, atI_nat (j := 2) rfl, wid, ow, a, M, h, v2, b, rfl, ⟨x0, w0⟩, cl0, hro.wg, d2, ?_⟩
      unfold ResW
      cases e : M.free h b with
      | error er => exact ref (by simp only [ansR, ansD, e]) H0 (Same.refl _)
      | ok M' => exact fun H1 ow1 f1 w1 => okk (by simp only [ansR, ansD, e]; rfl) H1 ow1 _ f1 w1
    | send h g b =>
      obtain ⟨v1, v2, v3, rfl, d1, d2, d3⟩ := three_pc dwt
      cases DV.intE d1
      cases DV.intE d2
      refine ⟨_, rfl, _, _, _, _, rfl, rfl, SqT.of epd0, atI_nat (j := 0) rfl, rfl, _, rfl, iteF' (by kernel_rfl) ⟨_, rfl, _, _, _, _, rfl, rfl, SqT.of epd0, atI_nat (j := 0) rfl, rfl, _, rfl, iteF' (by kernel_rfl) ⟨_, rfl, _, _, _, _, rfl, rfl, SqT.of epd0, atI_nat (j := 0) rfl, rfl, _, rfl, iteF' (by kernel_rfl) ⟨_, rfl, _, _, _, _, rfl, rfl, SqT.of epd0, atI_nat (j := 0) rfl, rfl, _, rfl, iteF' (by kernel_rfl) ⟨_, rfl, _, _, _, _, rfl, rfl, SqT.of epd0, atI_nat (j := 0) rfl, rfl, _, rfl, iteF' (by kernel_rfl) ⟨_, rfl, _, _, _, _, rfl, rfl, SqT.of epd0, atI_nat (j := 0) rfl, rfl, _, rfl, iteT' (by kernel_rfl) ?_⟩⟩⟩⟩⟩⟩
      refine ⟨_, rfl, a, x0.dx, _, rfl, w0.ob, wf_send, _, rfl, _, _, _, _, rfl, rfl, SqT.of epd0, atI_nat (j := 1) rfl, _, rfl, _, _, _, _, rfl, rfl, SqT.of epd0, atI_nat (j := 2) rfl, _, rfl, _, _, _, _, rfl, rfl, SqT.of epd0, atI_nat (j := 3) rfl, wid, ow, a, M, h, g, v3, b, rfl, ⟨x0, w0⟩, cl0, hro.wg, d3, ?_⟩
      cases e : M.send h g b with
      | error er => exact ref (by simp only [ansR, ansD, e]) H0 (Same.refl _)
      | ok M' => exact fun H1 ow1 f1 w1 => okk (by simp only [ansR, ansD, e]; rfl) H1 ow1 _ f1 w1
    | clean h =>
      obtain ⟨v1, rfl, d1⟩ := one_pc dwt
      cases DV.intE d1
      refine ⟨_, rfl, _, _, _, _, rfl, rfl, SqT.of epd0, atI_nat (j := 0) rfl, rfl, _, rfl, iteF' (by kernel_rfl) ⟨_, rfl, _, _, _, _, rfl, rfl, SqT.of epd0, atI_nat (j := 0) rfl, rfl, _, rfl, iteF' (by kernel_rfl) ⟨_, rfl, _, _, _, _, rfl, rfl, SqT.of epd0, atI_nat (j := 0) rfl, rfl, _, rfl, iteF' (by kernel_rfl) ⟨_, rfl, _, _, _, _, rfl, rfl, SqT.of epd0, atI_nat (j := 0) rfl, rfl, _, rfl, iteF' (by kernel_rfl) ⟨_, rfl, _, _, _, _, rfl, rfl, SqT.of epd0, atI_nat (j := 0) rfl, rfl, _, rfl, iteF' (by kernel_rfl) ⟨_, rfl, _, _, _, _, rfl, rfl, SqT.of epd0, atI_nat (j := 0) rfl, rfl, _, rfl, iteF' (by kernel_rfl) ⟨_, rfl, _, _, _, _, rfl, rfl, SqT.of epd0, atI_nat (j := 0) rfl, rfl, _, rfl, iteT' (by kernel_rfl) ?_⟩⟩⟩⟩⟩⟩⟩
      refine ⟨_, rfl, a, x0.dx, _, rfl, w0.ob, wf_clean, _, rfl, _, _, _, _, rfl, rfl, SqT.of epd0, atI_nat (j := 1) rfl, wid, ow, a, M, h, rfl, ⟨x0, w0⟩, cl0, hro.wg, ?_⟩
      cases e : M.clean h with
      | error er => exact ref (by simp only [ansR, ansN, e]) H0 (Same.refl _)
      | ok r1 =>
        obtain ⟨M', ns⟩ := r1
        exact fun H1 ow1 rr f1 w1 _ _ => okk (by simp only [ansR, ansN, e]; rfl) H1 ow1 _ f1 w1
    | ask h =>
      obtain ⟨v1, rfl, d1⟩ := one_pc dwt
      cases DV.intE d1
      refine ⟨_, rfl, _, _, _, _, rfl, rfl, SqT.of epd0, atI_nat (j := 0) rfl, rfl, _, rfl, iteF' (by kernel_rfl) ⟨_, rfl, _, _, _, _, rfl, rfl, SqT.of epd0, atI_nat (j := 0) rfl, rfl, _, rfl, iteF' (by kernel_rfl) ⟨_, rfl, _, _, _, _, rfl, rfl, SqT.of epd0, atI_nat (j := 0) rfl, rfl, _, rfl, iteF' (by kernel_rfl) ⟨_, rfl, _, _, _, _, rfl, rfl, SqT.of epd0, atI_nat (j := 0) rfl, rfl, _, rfl, iteF' (by kernel_rfl) ⟨_, rfl, _, _, _, _, rfl, rfl, SqT.of epd0, atI_nat (j := 0) rfl, rfl, _, rfl, iteF' (by kernel_rfl) ⟨_, rfl, _, _, _, _, rfl, rfl, SqT.of epd0, atI_nat (j := 0) rfl, rfl, _, rfl, iteF' (by kernel_rfl) ⟨_, rfl, _, _, _, _, rfl, rfl, SqT.of epd0, atI_nat (j := 0) rfl, rfl, _, rfl, iteF' (by kernel_rfl) ⟨_, rfl, _, _, _, _, rfl, rfl, SqT.of epd0, atI_nat (j := 0) rfl, rfl, _, rfl, iteT' (by kernel_rfl) ?_⟩⟩⟩⟩⟩⟩⟩⟩
      refine ⟨_, rfl, a, x0.dx, _, rfl, w0.ob, wf_ask, _, rfl, _, _, _, _, rfl, rfl, SqT.of epd0, atI_nat (j := 1) rfl, wid, ow, a, M, h, rfl, ⟨x0, w0⟩, cl0, hro.wg, ?_⟩
      cases e : M.ask h with
      | error er => exact ref (by simp only [ansR, ansD, e]) H0 (Same.refl _)
      | ok M' => exact fun H1 ow1 f1 w1 => okk (by simp only [ansR, ansD, e]; rfl) H1 ow1 _ f1 w1
    | come n =>
      obtain ⟨v1, rfl, d1⟩ := one_pc dwt
      cases DV.intE d1
      refine ⟨_, rfl, _, _, _, _, rfl, rfl, SqT.of epd0, atI_nat (j := 0) rfl, rfl, _, rfl, iteF' (by kernel_rfl) ⟨_, rfl, _, _, _, _, rfl, rfl, SqT.of epd0, atI_nat (j := 0) rfl, rfl, _, rfl, iteF' (by kernel_rfl) ⟨_, rfl, _, _, _, _, rfl, rfl, SqT.of epd0, atI_nat (j := 0) rfl, rfl, _, rfl, iteF' (by kernel_rfl) ⟨_, rfl, _, _, _, _, rfl, rfl, SqT.of epd0, atI_nat (j := 0) rfl, rfl, _, rfl, iteF' (by kernel_rfl) ⟨_, rfl, _, _, _, _, rfl, rfl, SqT.of epd0, atI_nat (j := 0) rfl, rfl, _, rfl, iteF' (by kernel_rfl) ⟨_, rfl, _, _, _, _, rfl, rfl, SqT.of epd0, atI_nat (j := 0) rfl, rfl, _, rfl, iteF' (by kernel_rfl) ⟨_, rfl, _, _, _, _, rfl, rfl, SqT.of epd0, atI_nat (j := 0) rfl, rfl, _, rfl, iteF' (by kernel_rfl) ⟨_, rfl, _, _, _, _, rfl, rfl, SqT.of epd0, atI_nat (j := 0) rfl, rfl, _, rfl, iteF' (by kernel_rfl) ?_⟩⟩⟩⟩⟩⟩⟩⟩
      refine ⟨_, rfl, a, x0.dx, _, rfl, w0.ob, wf_deliver, _, rfl, _, _, _, _, rfl, rfl, SqT.of epd0, atI_nat (j := 1) rfl, wid, ow, a, M, n, rfl, ⟨x0, w0⟩, cl0, hro.wg, hro.arr n rfl, ?_⟩
      cases e : M.come n with
      | error er => exact ref (by simp only [ansR, ansN, e]) H0 (Same.refl _)
      | ok r1 =>
        obtain ⟨M', ns⟩ := r1
        exact fun H1 ow1 rr f1 w1 _ _ => okk (by simp only [ansR, ansN, e]; rfl) H1 ow1 _ f1 w1
    | post => exact (Bool.false_ne_true hk).elim
    | holds _ => exact (Bool.false_ne_true hk).elim
    | hand _ => exact (Bool.false_ne_true hk).elim
    | things _ => exact (Bool.false_ne_true hk).elim
    | found _ => exact (Bool.false_ne_true hk).elim
end
end Fh

set_option Elab.async false
set_option linter.all false
set_option maxRecDepth 100000
set_option maxHeartbeats 4000000
namespace Fh
open PySem PySem.Spec L2 FhR FhH L2H
open Fm (Th Hs StD Wd Er HG HB HSm Sts SZ Inq Lt Ab WG ArrOk)
def spRowOf : Sp := fun vs H Q _ => ∃ v r, vs = [v] ∧ DV H v (dRow r) ∧ r.ok ∧ ∀ H', Same H H' → Q (.str (rowS r)) H'
theorem rowJoin_snoc (w : Str) (l : List Str) (x : Str) : rowJoin w (l ++ [x]) = rowJoin w l ++ (" " : Str) ++ x := by
  unfold rowJoin
  rw [List.foldl_append]
  rfl
section
variable {P : Program} {w : World} {K : PySem.W.Frag} {mg : Str → Option Value} {base : Heap}
theorem scLThing : FnScope ["_law_thing_here"] ["_law_thing_here"] (defScope s_l_thing) := ⟨rfl, rfl, rfl, by decide +kernel, rfl, by decide +kernel, by decide +kernel⟩
theorem ok_lthing (T : Tx K mg) : Ok P w K mg base 1 d_l_thing ["_law_thing_here"] spThText := by
  refine Ok.mk T 77 rfl ⟨rfl, rfl⟩ scLThing (fun vs H Q E h => ?_) (fun _ _ _ _ _ _ us hl => match us, hl with | [_], _ => rfl) (fun cdv A outer s H vs Q E hr h => ?_)
  · obtain ⟨v, t, rfl, _⟩ := h
    rfl
  · obtain ⟨v, t, rfl, dv, ht, q⟩ := h
    obtain ⟨c, rfl, hc⟩ := dv.th
    refine ⟨_, pss_one (ps_ret (pe_op op_add_str (pe_op op_add_str (pe_callTy call_str_int rfl T.f_str PyProof.Rows.boot_str (pa_cons (pe_ix ix_tup (pv 0) pe_int (fun _ _ => rfl)) pa_nil)) pe_str) (pe_callTy call_str_int rfl T.f_str PyProof.Rows.boot_str (pa_cons (pe_ix ix_tup (pv 0) pe_int (fun _ _ => rfl)) pa_nil)))), ?_⟩
    have l1 := (numS_len ht.1).2
    have l2 := (numS_len ht.2).2
    refine ⟨_, rfl, _, _, _, _, rfl, rfl, SqT.of hc, atI_nat (j := 0) rfl, t.1, rfl, numS_log ht.1, _, _, rfl, rfl, ?_, _, rfl, _, _, _, _, rfl, rfl, SqT.of hc, atI_nat (j := 1) rfl, t.2, rfl, numS_log ht.2, _, _, rfl, rfl, ?_, q⟩
    · show (numS t.1).length + 1 ≤ sizeLine
      rw [sizeLine_eq]
      omega
    · show (numS t.1 ++ ("." : Str)).length + (numS t.2).length ≤ sizeLine
      rw [len_app, sizeLine_eq]
      show _ + 1 + _ ≤ _
      omega
theorem scLListed : FnScope ["_law_texts"] ["_law_texts"] (defScope s_l_listed) := ⟨rfl, rfl, rfl, by decide +kernel, rfl, by decide +kernel, by decide +kernel⟩
theorem ok_llisted (T : Tx K mg) : Ok P w K mg base 1 d_l_listed ["_law_texts"] spListed := by
  refine Ok.mk T 78 rfl ⟨rfl, rfl⟩ scLListed (fun vs H Q E h => ?_) (fun _ _ _ _ _ _ us hl => match us, hl with | [_], _ => rfl) (fun cdv A outer s H vs Q E hr h => ?_)
  · obtain ⟨p, xs, rfl, _⟩ := h
    rfl
  · obtain ⟨p, xs, rfl, hp, hl, hx, q⟩ := h
    refine ⟨_, pss_cons (ps_if (pt_cmpR (op_eqD hr.units) (pv 0) (pe_lst pa_nil) (nomark _)) (pss_one (ps_ret pe_str)) pss_nil)
      (pss_one (ps_ret (pe_join pe_str (pv 0)))), ?_⟩
    refine ⟨_, rfl, (by show 0 ≤ sizeLine; exact Nat.zero_le _), fun r nr => ?_⟩
    have s1 := same_new (o := .lst []) nr
    refine ⟨.list (xs.map PyData.str), .list [], .lst (SqL.of (s1 _ _ hp)) (dpAll_strs xs), .lst (SqL.of upd_same) .nil, shaped_list (fun d hd => ?_), shaped_nil, _, rfl, ?_⟩
    · obtain ⟨x, hxm, rfl⟩ := List.mem_map.mp hd
      exact ⟨by simp only [PyData.canLay0]; exact okS_ok (hx x hxm).2, by simp [PyData.depth]⟩
    rw [eqv_nil]
    unfold listS at q
    cases xs with
    | nil => exact iteT (q _ s1)
    | cons x r =>
      refine iteF ⟨⟨_, rfl⟩, _, rfl, _, _, x :: r, rfl, rfl, .inl (SqL.of (s1 _ _ hp)), ?_, q _ s1⟩
      have h1 := sum_len (x :: r) fun y hy => (hx y hy).1
      have h2 : (x :: r).length * (Str.ofString " ").length = (x :: r).length * 1 := rfl
      rw [h2]
      omega
theorem scRowOf : FnScope ["_law_deed_here", "_law_row", "_law_one"] ["_law_deed_here"] (defScope s_l_row_of) := ⟨rfl, rfl, rfl, by decide +kernel, rfl, by decide +kernel, by decide +kernel⟩
theorem ok_row_of (T : Tx K mg) : Ok P w K mg base 2 d_l_row_of ["_law_deed_here"] spRowOf := by
  obtain ⟨f1, F1, b1, k1⟩ := ok_lthing (P := P) (w := w) (base := base) T
  refine Ok.mk T 80 rfl ⟨rfl, rfl⟩ scRowOf (fun vs H Q E h => ?_) (fun _ _ _ _ _ _ us hl => match us, hl with | [_], _ => rfl) (fun cdv A outer s H vs Q E hr h => ?_)
  · obtain ⟨v, r, rfl, _⟩ := h
    rfl
  · obtain ⟨v, r, rfl, dv, hok, q⟩ := h
    obtain ⟨pd, ws, rfl, epd, dws⟩ := DV.tupE dv
    obtain ⟨vw, wt, rfl, dvw, dwt⟩ := dws.consE
    cases dvw.strE
    have hr1 := hr.mono (show 0 ≤ 1 by decide)
    refine ⟨_, pss_cons (ps_set (i := 1) scRowOf.nd rfl (.inl rfl) (pe_ix ix_tup (pv 0) pe_int (fun _ _ => rfl)))
      (pss_cons (ps_for (passes_of rfl) rfl (pi_tup (pe_slice sl_tup (pv 0) (po_some pe_int) po_none)) (pg_name (i := 2) scRowOf.nd rfl (.inl rfl))
        (pss_one (ps_if (pt_val (pe_callB call_isi rfl T.f_isinstance PyProof.Rows.boot_isinstance (pa_cons (pv 2) (pa_cons (pe_bltn (v := .ty "tuple") rfl T.f_tuple PyProof.Rows.boot_tuple rfl) pa_nil))))
          (pss_one (ps_set (i := 1) scRowOf.nd rfl (.inl rfl) (pe_op op_add_str (pe_op op_add_str (pv 1) pe_str) (pe_call F1 hr rfl T.g_law_thing k1 b1 .nil passL (pa_cons (pv 2) pa_nil)))))
          (pss_one (ps_set (i := 1) scRowOf.nd rfl (.inl rfl) (pe_op op_add_str (pe_op op_add_str (pv 1) pe_str) (pe_callTy call_str_int rfl T.f_str PyProof.Rows.boot_str (pa_cons (pv 2) pa_nil))))))))
      (pss_one (ps_ret (pv 1)))), ?_⟩
    have hlw : wt.length = (rowP r).length := by rw [dwt.length]; exact List.length_map ..
    have hcut : cutV (.str (rowW r) :: wt) (some 1) none = wt := by
      show ((.str (rowW r) :: wt).drop (HT.sIx _ 0 (some ((1 : Nat) : Int)))).take _ = wt
      rw [HT.sIx_nat, show min 1 (V.str (rowW r) :: wt).length = 1 from by simp]
      show (wt.take ((V.str (rowW r) :: wt).length - 1)) = wt
      simp
    refine ⟨_, rfl, _, _, _, _, rfl, rfl, SqT.of epd, atI_nat (j := 0) rfl, ?_⟩
    refine ⟨_, rfl, _, rfl, pd, _, rfl, SqT.of epd, ?_, fun p np => ?_⟩
    · rintro ⟨z, _⟩
      rw [show (1 : Int) = ((1 : Nat) : Int) from rfl, HT.sIx_nat] at z
      simp at z
    rw [hcut]
    have s1 := same_new (o := .tup wt) np
    have e1 : upd H p (.tup wt) p = some (.tup wt) := upd_same
    generalize upd H p (.tup wt) = H1 at s1 e1
    replace dwt := dwt.mono (Same.ts s1)
    refine ⟨p, rfl, ⟨_, SqT.of e1⟩, ?_⟩
    have lrow : ∀ j, (rowJoin (rowW r) (((rowP r).take j).map pcS)).length ≤ 66 := fun j => by
      have h1 := rowJoin_len (((rowP r).take j).map pcS) (rowW r) fun x hx => by
        obtain ⟨y, hy, rfl⟩ := List.mem_map.mp hx
        exact pcS_len (hok y (List.mem_of_mem_take hy))
      have h2 := rowW_len r
      have h3 := rowP_len r
      have h4 := List.length_take_le' j (rowP r)
      rw [List.length_map] at h1
      omega
    have lb : (" " : Str).length = 1 := rfl
    refine for_it (walk_tup (a := p) (xs := wt)) (fun j σ H' => ∃ v2 : Option V, σ = [some (.ref pd), some (.str (rowJoin (rowW r) (((rowP r).take j).map pcS))), v2] ∧ H' = H1)
      ⟨_, rfl, rfl⟩ (fun j σ H' _ z => by obtain ⟨_, _, rfl⟩ := z; exact SqT.of e1) ?_ ?_
    · rintro j v σ H5 H4 hj ⟨v2, rfl, rfl⟩ ⟨rfl, hv⟩
      obtain ⟨dd, hd1, hdv⟩ := dwt.get hv
      obtain ⟨y, hy, rfl⟩ := map_at hd1
      have et : ((rowP r).take (j + 1)).map pcS = ((rowP r).take j).map pcS ++ [pcS y] := by rw [take_succ_at hy, List.map_append]; rfl
      have hy0 := hok y (List.mem_of_getElem? hy)
      have l1 := lrow j
      have l2 := pcS_len hy0
      cases y with
      | n i =>
        cases DV.intE hdv
        refine ⟨_, rfl, .int i, .ty "tuple", _, _, _, rfl, .ty _, .base (.int i), kit_ty (r := false) (by decide +kernel), ?_⟩
        refine ⟨_, rfl, iteF ⟨_, rfl, _, _, rfl, rfl, ?_, _, rfl, i, rfl, numS_log hy0, _, _, rfl, rfl, ?_, ?_⟩⟩
        · rw [sizeLine_eq]; omega
        · show (_ ++ (" " : Str)).length + (numS i).length ≤ sizeLine
          rw [sizeLine_eq, len_app]
          have l3 : (numS i).length ≤ 19 := l2
          omega
        · exact ⟨_, by rw [et, rowJoin_snoc]; rfl, rfl⟩
      | t b =>
        obtain ⟨c, rfl, hc⟩ := id (DV.th hdv)
        refine ⟨_, rfl, .ref c, .ty "tuple", _, _, _, rfl, .ty _, .base (.tup hc), kit_ty (r := true) (by decide +kernel), ?_⟩
        refine ⟨_, rfl, iteT ⟨_, rfl, _, _, rfl, rfl, ?_, _, rfl, _, b, rfl, hdv, hy0, _, _, rfl, rfl, ?_, ?_⟩⟩
        · rw [sizeLine_eq]; omega
        · rw [sizeLine_eq, len_app]
          have l3 : (thS b).length ≤ 19 := l2
          omega
        · exact ⟨_, by rw [et, rowJoin_snoc]; rfl, rfl⟩
    · rintro σ H4 ⟨v2, rfl, rfl⟩
      refine ⟨_, rfl, ?_⟩
      rw [hlw, List.take_of_length_le (Nat.le_refl _)]
      exact q _ s1
end
end Fh

set_option Elab.async false
set_option linter.all false
set_option maxRecDepth 100000
set_option maxHeartbeats 4000000
namespace Fh
open PySem PySem.Spec L2 FhR FhH L2H
open Fm (Th Hs StD Wd Er HG HB HSm Sts SZ Inq Lt Ab WG ArrOk)
theorem dThs_shape : ∀ ts : List Th, (dThs ts).canLay0 = true ∧ (dThs ts).depth ≤ 3 := fun ts => by
  have h : PyData.canLayAll0 (ts.map dTh) = true ∧ PyData.depthAll (ts.map dTh) ≤ 2 := by
    induction ts with
    | nil => exact ⟨by simp [PyData.canLayAll0], by simp [PyData.depthAll]⟩
    | cons t r ih =>
      have h2 : (dTh t).canLay0 = true := (dTh_shape t).1
      have h3 : (dTh t).depth ≤ 2 := by unfold dTh; simp [PyData.depth, PyData.depthAll]
      exact ⟨by simp only [List.map_cons, PyData.canLayAll0, h2, ih.1]; rfl, by simp only [List.map_cons, PyData.depthAll]; omega⟩
  unfold dThs
  exact ⟨by simp only [PyData.canLay0, h.1], by simp only [PyData.depth]; omega⟩
theorem dAb_shape (ab : Ab) : (dAb ab).canLay0 = true ∧ (dAb ab).depth ≤ 4 := by
  cases ab with
  | lets ts => exact ⟨(dThs_shape ts).1, Nat.le_trans (dThs_shape ts).2 (by decide)⟩
  | ask q t => exact ⟨by simp [dAb, PyData.canLay0, PyData.canLayAll0], by simp [dAb, PyData.depth, PyData.depthAll]⟩
  | ans q t => exact ⟨by simp [dAb, PyData.canLay0, PyData.canLayAll0], by simp [dAb, PyData.depth, PyData.depthAll]⟩
  | _ => exact ⟨by simp [dAb, dTh, PyData.canLay0, PyData.canLayAll0], by simp [dAb, dTh, PyData.depth, PyData.depthAll]⟩
theorem dLt_shape (e : Int × Lt) : (dLt e).canLay0 = true ∧ (dLt e).depth ≤ 60 := by
  have h := dAb_shape e.2.ab
  have hk : PyData.strOk (kindS e.2.ab) = true := okS_ok (okS_kind _)
  unfold dLt
  exact ⟨by simp [PyData.canLay0, PyData.canLayAll0, h.1, hk], by simp only [PyData.depth, PyData.depthAll]; omega⟩
theorem shaped_lts (l : List (Int × Lt)) : SeqAt.shaped (.list (l.map dLt)) = true := shaped_list fun d hd => by
  obtain ⟨e, _, rfl⟩ := List.mem_map.mp hd
  exact dLt_shape e
def spPick (K : PySem.W.Frag) : Sp := fun vs H Q _ => ∃ (p : Addr) (ws : List V) (ts : List Th) (x : Int) (vo : V) (o : Th), vs = [.ref p, .int x, vo] ∧ (SqL K H p ws ∨ SqT K H p ws) ∧ DVs H ws (ts.map dTh) ∧ DV H vo (dTh o) ∧
  ∀ v t, DV H v (dTh t) → (t = o ∨ t ∈ ts) → Q v H
def spLHeld : Sp := fun vs H Q _ => ∃ (v va : V) (st : StD) (a : Th), vs = [v, va] ∧ DV H v (dSt st) ∧ DV H va (dTh a) ∧
  ∀ H' p ws (ts : List Th), Same H H' → H' p = some (.tup ws) → DVs H' ws (ts.map dTh) → (∀ t ∈ ts, ∃ e ∈ st.things, t ∈ e.2.2) → Q (.ref p) H'
def spLCome (K : PySem.W.Frag) : Sp := fun vs H Q _ => ∃ (wid : Nat) (ow : Ow) (a : Addr) (M : Wd) (x : Int), vs = [.ref a, .int x] ∧ WAt K wid H ow a M ∧ WG M ∧ 0 ≤ x ∧
  ∀ H' v r, Same H H' → DV H' v (dRow r) → (r = .make 0 ∨ ∃ e ∈ M.letters, r = .come e.1) → Q v H'
section
variable {P : Program} {w : World} {K : PySem.W.Frag} {mg : Str → Option Value} {base : Heap}
theorem scPick : FnScope ["_law_some", "_law_x", "_law_other"] ["_law_some", "_law_x", "_law_other"] (defScope s_l_pick) := ⟨rfl, rfl, rfl, by decide +kernel, rfl, by decide +kernel, by decide +kernel⟩
theorem ok_pick (T : Tx K mg) : Ok P w K mg base 1 d_l_pick ["_law_some", "_law_x", "_law_other"] (spPick K) := by
  refine Ok.mk T 72 rfl ⟨rfl, rfl⟩ scPick (fun vs H Q E h => ?_) (fun _ _ _ _ _ _ us hl => match us, hl with | [_, _, _], _ => rfl) (fun cdv A outer s H vs Q E hr h => ?_)
  · obtain ⟨p, ws, ts, x, vo, o, rfl, _⟩ := h
    rfl
  · obtain ⟨p, ws, ts, x, vo, o, rfl, hp, dws, dvo, q⟩ := h
    refine ⟨_, pss_cons (ps_if (pt_cmpR op_eq (pe_callB call_len_seq rfl T.f_len boot_len (pa_cons (pv 0) pa_nil)) pe_int (nomark _)) (pss_one (ps_ret (pv 2))) pss_nil)
      (pss_one (ps_ret (pe_ix ix_seq (pv 0) (pe_op op_mod (pv 1) (pe_callB call_len_seq rfl T.f_len boot_len (pa_cons (pv 0) pa_nil))) (fun _ _ => rfl)))), ?_⟩
    refine ⟨_, rfl, p, ws, rfl, hp, rfl, _, rfl, ?_⟩
    have hl : ws.length = ts.length := by rw [dws.length]; exact List.length_map ..
    by_cases h0 : ws.length = 0
    · rw [h0]
      exact iteT ⟨_, rfl, q _ _ dvo (.inl rfl)⟩
    · refine iteF' (decide_eq_false fun z => h0 (by injection z with z; omega)) ⟨_, rfl, _, rfl, _, rfl, p, ws, rfl, hp, x, _, rfl, rfl, by omega, ?_⟩
      have h1 := Int.emod_nonneg x (show ((ws.length : Nat) : Int) ≠ 0 by omega)
      have h2 := Int.emod_lt_of_pos x (show (0 : Int) < (ws.length : Nat) by omega)
      obtain ⟨j, hj⟩ : ∃ j : Nat, x % (ws.length : Nat) = (j : Int) := ⟨(x % (ws.length : Nat)).toNat, by omega⟩
      have hjl : j < ws.length := by omega
      have hw := List.getElem?_eq_getElem hjl
      obtain ⟨d, hd, hdv⟩ := dws.get hw
      obtain ⟨t, ht, rfl⟩ := map_at hd
      show rIx _ (.ref p) (.int (x % ((ws.length : Nat) : Int))) H _
      rw [hj]
      rcases hp with hp | hp
      · exact .inl ⟨p, ws, _, _, rfl, rfl, hp, atI_nat hw, q _ _ hdv (.inr (List.mem_of_getElem? ht))⟩
      · exact .inr (.inl ⟨p, ws, _, _, rfl, rfl, hp, atI_nat hw, q _ _ hdv (.inr (List.mem_of_getElem? ht))⟩)
theorem scLHeld : FnScope ["_law_state", "_law_a", "_law_thing_here", "_law_out", "_law_holds"] ["_law_state", "_law_a"] (defScope s_l_held_by) := ⟨rfl, rfl, rfl, by decide +kernel, rfl, by decide +kernel, by decide +kernel⟩
theorem ok_lheld (T : Tx K mg) : Ok P w K mg base 1 d_l_held_by ["_law_state", "_law_a"] spLHeld := by
  refine Ok.mk T 73 rfl ⟨rfl, rfl⟩ scLHeld (fun vs H Q E h => ?_) (fun _ _ _ _ _ _ us hl => match us, hl with | [_, _], _ => rfl) (fun cdv A outer s H vs Q E hr h => ?_)
  · obtain ⟨v, va, st, a, rfl, _⟩ := h
    rfl
  · obtain ⟨v, va, st, a, rfl, dst, dva, q⟩ := h
    refine ⟨_, pss_cons (ps_for (passes_of rfl) rfl (pi_tup (pe_ix ix_tup (pv 0) pe_int (fun _ _ => rfl)))
        (pg_tup rfl (pgs_cons (pg_name (i := 2) scLHeld.nd rfl (.inl rfl)) (pgs_cons (pg_name (i := 3) scLHeld.nd rfl (.inl rfl)) (pgs_cons (pg_name (i := 4) scLHeld.nd rfl (.inl rfl)) pgs_nil))))
        (pss_one (ps_if (pt_cmpR (op_eqD hr.units) (pv 2) (pv 1) (nomark _)) (pss_one (ps_ret (pv 4))) pss_nil)))
      (pss_one (ps_ret (pe_tup pa_nil))), ?_⟩
    obtain ⟨ps, xs, qq, ws, rfl, hps, hat, hqq, dws⟩ := dst_things dst
    refine ⟨_, rfl, _, _, _, _, rfl, rfl, SqT.of hps, hat, qq, rfl, ⟨_, SqT.of hqq⟩, ?_⟩
    refine for_it (walk_tup (a := qq) (xs := ws)) (fun j σ H' => ∃ v2 v3 v4 : Option V, σ = [some (.ref ps), some va, v2, v3, v4] ∧ H' = H)
      ⟨_, _, _, rfl, rfl⟩ (fun j σ H' _ z => by obtain ⟨_, _, _, _, rfl⟩ := z; exact SqT.of hqq) ?_ ?_
    · rintro j v σ H5 H4 hj ⟨v2, v3, v4, rfl, rfl⟩ ⟨rfl, hv⟩
      obtain ⟨dd, hd1, hdv⟩ := dws.get hv
      obtain ⟨y, hy, rfl⟩ := map_at hd1
      obtain ⟨b, c2, vh, rfl, hb, hc2, dvh⟩ := dEntE hdv
      obtain ⟨pt, wt, rfl, hpt, dwt⟩ := DV.tupE dvh
      have hym : y ∈ st.things := List.mem_of_getElem? hy
      refine ⟨b, _, rfl, SqT.of hb, rfl, _, _, rfl, _, _, rfl, _, _, rfl, rfl, ?_⟩
      refine ⟨_, rfl, _, rfl, dTh y.1, dTh a, (DV.mkTh hc2).dp, dva.dp, shaped_th _, shaped_th _, _, rfl, ?_⟩
      rw [eqv_th]
      by_cases cy : y.1 = a
      · rw [decide_eq_true cy]
        exact iteT ⟨_, rfl, q _ _ _ _ (Same.refl _) hpt dwt fun t ht => ⟨y, hym, ht⟩⟩
      · rw [decide_eq_false cy]
        exact iteF ⟨_, _, _, rfl, rfl⟩
    · rintro σ H4 ⟨v2, v3, v4, rfl, rfl⟩
      refine ⟨(by show 0 ≤ sizeLine; exact Nat.zero_le _), fun p np => ?_⟩
      exact q _ p [] [] (same_new np) upd_same .nil (fun t ht => nomatch ht)
theorem scLCome : FnScope ["_law_world", "_law_x", "_law_lying"] ["_law_world", "_law_x"] (defScope s_l_come) := ⟨rfl, rfl, rfl, by decide +kernel, rfl, by decide +kernel, by decide +kernel⟩
theorem ok_lcome (T : Tx K mg) : Ok P w K mg base 3 d_l_come ["_law_world", "_law_x"] (spLCome K) := by
  obtain ⟨f1, F1, b1, k1⟩ := ok_wletters (P := P) (w := w) (base := base) T
  refine Ok.mk T 74 rfl ⟨rfl, rfl⟩ scLCome (fun vs H Q E h => ?_) (fun _ _ _ _ _ _ us hl => match us, hl with | [_, _], _ => rfl) (fun cdv A outer s H vs Q E hr h => ?_)
  · obtain ⟨wid, ow, a, M, x, rfl, _⟩ := h
    rfl
  · obtain ⟨wid, ow, a, M, x, rfl, hw, hg, hx, q⟩ := h
    refine ⟨_, pss_cons (ps_set (i := 2) scLCome.nd rfl (.inl rfl) (pe_meth0 (pv 0) T.c_World T.m_World_letters F1 hr b1 .nil passL))
      (pss_cons (ps_if (pt_cmpR (op_eqD hr.units) (pv 2) (pe_lst pa_nil) (nomark _)) (pss_one (ps_ret (pe_tup (pa_cons pe_str (pa_cons pe_int pa_nil))))) pss_nil)
      (pss_one (ps_ret (pe_tup (pa_cons pe_str (pa_cons (pe_ix ix_tup (pe_ix ix_list (pv 2) (pe_ix ix_list (pe_lst (pa_cons pe_int (pa_cons (pe_op op_sub (pe_callB call_len_seq rfl T.f_len boot_len (pa_cons (pv 2) pa_nil)) pe_int)
          (pa_cons (pe_op op_mod (pe_op op_fdiv (pv 1) pe_int) (pe_callB call_len_seq rfl T.f_len boot_len (pa_cons (pv 2) pa_nil))) pa_nil)))) (pe_op op_mod (pv 1) pe_int) (fun _ _ => rfl)) (fun _ _ => rfl)) pe_int (fun _ _ => rfl)) pa_nil)))))), ?_⟩
    obtain ⟨x0, hw0⟩ := id hw
    refine ⟨_, rfl, a, _, _, rfl, hw0.ob, wf_letters, wid, ow, a, M, rfl, hw, hg, fun H1 r ws s1 nr hr1 dws => ?_⟩
    refine ⟨_, rfl, (by show 0 ≤ sizeLine; exact Nat.zero_le _), fun p2 n2 => ?_⟩
    have s2 := s1.trans (same_new (o := .lst []) n2)
    have er : upd H1 p2 (.lst []) r = some (.lst ws) := keepL hr1 n2
    replace dws := dws.mono (Same.ts (same_new (o := .lst []) n2))
    refine ⟨.list (M.letters.map dLt), .list [], .lst (SqL.of er) dws.dp, .lst (SqL.of upd_same) .nil, shaped_lts _, shaped_nil, _, rfl, ?_⟩
    generalize upd H1 p2 (.lst []) = H2 at s2 er dws
    rw [eqv_nil]
    have hl : ws.length = M.letters.length := by rw [dws.length]; exact List.length_map ..
    cases el : M.letters with
    | nil =>
      refine iteT ⟨(by show 2 ≤ sizeLine; decide), fun p3 n3 => ?_⟩
      exact q _ _ (.make 0) (s2.trans (same_new n3)) (.tup upd_same (.cons (.str _) (.cons (.int _) .nil))) (.inl rfl)
    | cons e0 l0 =>
      have hpos : 0 < ws.length := by rw [hl, el]; simp
      refine iteF ?_
      refine ⟨_, rfl, _, rfl, r, ws, rfl, .inl (SqL.of er), _, _, rfl, rfl, _, rfl, _, _, rfl, rfl, ⟨by decide, by decide⟩, _, rfl, r, ws, rfl, .inl (SqL.of er), _, _, rfl, rfl, by omega, (by show 3 ≤ sizeLine; decide), fun p3 n3 => ?_⟩
      have h1 := Int.emod_nonneg (x / 3) (show ((ws.length : Nat) : Int) ≠ 0 by omega)
      have h2 := Int.emod_lt_of_pos (x / 3) (show (0 : Int) < (ws.length : Nat) by omega)
      have h3 := Int.emod_nonneg x (show (3 : Int) ≠ 0 by omega)
      have h4 := Int.emod_lt_of_pos x (show (0 : Int) < 3 by omega)
      have pick : ∃ j : Nat, j < ws.length ∧ atI [V.int 0, .int ((ws.length : Nat) - 1), .int (x / 3 % (ws.length : Nat))] (x % 3) = some (.int (j : Int)) := by
        obtain h5 | h5 | h5 : x % 3 = 0 ∨ x % 3 = 1 ∨ x % 3 = 2 := by omega
        · rw [h5]
          exact ⟨0, hpos, atI_nat (j := 0) rfl⟩
        · rw [h5]
          refine ⟨ws.length - 1, by omega, ?_⟩
          rw [show ((ws.length - 1 : Nat) : Int) = (ws.length : Nat) - 1 by omega]
          exact atI_nat (j := 1) rfl
        · rw [h5]
          refine ⟨(x / 3 % (ws.length : Nat)).toNat, by omega, ?_⟩
          rw [show (((x / 3 % (ws.length : Nat)).toNat : Nat) : Int) = x / 3 % (ws.length : Nat) by omega]
          exact atI_nat (j := 2) rfl
      obtain ⟨j, hj, hat⟩ := pick
      have hwj := List.getElem?_eq_getElem hj
      obtain ⟨d, hd, hdv⟩ := dws.get hwj
      obtain ⟨e, he, rfl⟩ := map_at hd
      obtain ⟨b, va, hb, ht, _⟩ := dLtE (hdv.mono (Same.ts (same_new n3)))
      have hem : e ∈ M.letters := List.mem_of_getElem? he
      refine ⟨_, rfl, _, _, rfl, rfl, (by show (0 : Int) < 3; decide), p3, _, _, _, rfl, rfl, SqL.of upd_same, hat, r, ws, _, _, rfl, rfl, SqL.of (keepL er n3), atI_nat hwj, b, _, _, _, hb, rfl, SqT.of ht, atI_nat (j := 0) rfl, (by show 2 ≤ sizeLine; decide), fun p4 n4 => ?_⟩
      exact q _ _ (.come e.1) ((s2.trans (same_new n3)).trans (same_new n4)) (.tup upd_same (.cons (.str _) (.cons (.int _) .nil))) (.inr ⟨e, hem, rfl⟩)
end
end Fh

set_option Elab.async false
set_option linter.all false
set_option maxRecDepth 100000
set_option maxHeartbeats 4000000
namespace Fh
open PySem PySem.Spec L2 FhR FhH L2H
open Fm (Th Hs StD Wd Er HG HB HSm Sts SZ Inq Lt Ab WG ArrOk)
theorem cell_at {ns : List Int} (hl : ns.length = 7) (h : ∀ x ∈ ns, 0 ≤ x) (i : Nat) (hi : i < 7) : ∃ x, atI (ns.map V.int) (i : Int) = some (.int x) ∧ 0 ≤ x := by
  have hx := List.getElem?_eq_getElem (show i < ns.length by omega)
  refine ⟨ns[i], atI_nat ?_, h _ (List.getElem_mem _)⟩
  rw [List.getElem?_map, hx]
  rfl
theorem pss_pre {X : Cx} {l : List Stmt} {t t' : L2.TS} (h : PSs X l t) (hh : ∀ D σ H, t' D σ H → t D σ H) : PSs X l t' := ⟨fun pins s σ H D I q => h.run pins s σ H D I (hh D σ H q)⟩
theorem okP1 {a : Pc} (h : a.ok) : ∀ p ∈ [a], p.ok := fun p hp => by rcases List.mem_singleton.mp hp with rfl; exact h
theorem okP2 {a b : Pc} (h : a.ok) (g : b.ok) : ∀ p ∈ [a, b], p.ok := fun p hp => by
  rcases List.mem_cons.mp hp with rfl | hp
  · exact h
  · exact okP1 g p hp
theorem okP3 {a b c : Pc} (h : a.ok) (g : b.ok) (k : c.ok) : ∀ p ∈ [a, b, c], p.ok := fun p hp => by
  rcases List.mem_cons.mp hp with rfl | hp
  · exact h
  · exact okP2 g k p hp
/-- an act of a world: a deed, or a letter that lies comes -/
def ActOf (M : Wd) (r : Row) : Prop := isAct r = true ∧ r.ok ∧ ∀ h, r = .ask h → M.is h = true
def spLDeed (K : PySem.W.Frag) : Sp := fun vs H Q _ => ∃ (wid : Nat) (ow : Ow) (a px : Addr) (M : Wd) (ns : List Int), vs = [.ref a, .ref px, .int (M.hs.length : Nat)] ∧ WAt K wid H ow a M ∧ WG M ∧ WN M ∧ 0 < M.hs.length ∧
  H px = some (.lst (ns.map V.int)) ∧ ns.length = 7 ∧ (∀ x ∈ ns, 0 ≤ x) ∧ ∀ H' v r, Same H H' → DV H' v (dRow r) → ActOf M r → Q v H'
/-- what is known before the ways of a deed -/
def tWays (K : PySem.W.Frag) : L2.TS := fun D σ H => ∃ (wid : Nat) (ow : Ow) (a px : Addr) (M : Wd) (ns : List Int) (h way : Int) (vs va vb : V) (ta tb : Th) (x5 x9 : Option V),
  σ = [some (.ref a), some (.ref px), some (.int (M.hs.length : Nat)), some (.int h), some vs, x5, some va, some vb, some (.int way), x9] ∧ WAt K wid H ow a M ∧ WG M ∧ WN M ∧ 0 < M.hs.length ∧ M.is h = true ∧ Nm h ∧
  H px = some (.lst (ns.map V.int)) ∧ ns.length = 7 ∧ (∀ x ∈ ns, 0 ≤ x) ∧ DV H vs (dSt ((M.at h).state h)) ∧ DV H va (dTh ta) ∧ DV H vb (dTh tb) ∧ Nt ta ∧ Nt tb ∧
  ∀ H' v r, Same H H' → DV H' v (dRow r) → ActOf M r → D.rt v H'
section
variable {P : Program} {w : World} {K : PySem.W.Frag} {mg : Str → Option Value} {base : Heap}
theorem scLDeed : FnScope ["_law_world", "_law_xs", "_law_many", "_law_h", "_law_state", "_law_near", "_law_a", "_law_b", "_law_way", "_law_thing_here"] ["_law_world", "_law_xs", "_law_many"] (defScope s_l_deed) := ⟨rfl, rfl, rfl, by decide +kernel, rfl, by decide +kernel, by decide +kernel⟩
theorem ok_ldeed (T : Tx K mg) : Ok P w K mg base 4 d_l_deed ["_law_world", "_law_xs", "_law_many"] (spLDeed K) := by
  obtain ⟨f1, F1, b1, k1⟩ := ok_wstate (P := P) (w := w) (base := base) T
  obtain ⟨f2, F2, b2, k2⟩ := ok_pick (P := P) (w := w) (base := base) T
  obtain ⟨f3, F3, b3, k3⟩ := ok_wletters (P := P) (w := w) (base := base) T
  obtain ⟨f4, F4, b4, k4⟩ := ok_lcome (P := P) (w := w) (base := base) T
  obtain ⟨f5, F5, b5, k5⟩ := ok_lheld (P := P) (w := w) (base := base) T
  refine Ok.mk T 75 rfl ⟨rfl, rfl⟩ scLDeed (fun vs H Q E h => ?_) (fun _ _ _ _ _ _ us hl => match us, hl with | [_, _, _], _ => rfl) (fun cdv A outer s H vs Q E hr h => ?_)
  · obtain ⟨wid, ow, a, px, M, ns, rfl, _⟩ := h
    rfl
  · obtain ⟨wid, ow, a, px, M, ns, rfl, hw, hg, hn, hpos, hpx, hns, hx0, q⟩ := h
    have hr1 := hr.mono (show 1 ≤ 3 by decide)
    have hr2 := hr.mono (show 2 ≤ 3 by decide)
    refine ⟨_, pss_cons (ps_set (i := 3) scLDeed.nd rfl (.inr rfl) (pe_op op_mod (pe_ix ix_list (pv 1) pe_int (fun _ _ => rfl)) (pv 2)))
      (pss_cons (ps_set (i := 4) scLDeed.nd rfl (.inl rfl) (pe_meth (pv 0) T.c_World T.m_World_state F1 hr2 b1 .nil (passC (takes_of rfl rfl rfl rfl)) (pa_cons (pv 3) pa_nil)))
      (pss_cons (ps_setLc (i := 5) (own := [("_law_thing_here", 9)]) (g := gName 9) (tt := tTest (tOp rEq (tOp (rIxT K) (tVar 9) (tC (.int 0))) (tVar 3))) (te := tVar 9) rfl scLDeed.nd rfl rfl (sw_true rfl rfl rfl rfl) (pi_tup (pe_ix ix_tup (pv 4) pe_int (fun _ _ => rfl)))
          (blkOk_by (own := [("_law_thing_here", 9)]) (N := ["_law_world", "_law_xs", "_law_many", "_law_h", "_law_state", "_law_near", "_law_a", "_law_b", "_law_way", "_law_thing_here"]) (sc := defScope s_l_deed) (by decide +kernel))
          (fun _ _ _ _ _ => pg_name (i := 9) scLDeed.nd rfl (.inl rfl)) (fun _ _ _ _ _ => pts_one (pt_cmpR op_eq (pe_ix ix_tup (pv 9) pe_int (fun _ _ => rfl)) (pv 3) (nomark _))) (fun _ _ _ _ _ => pv 9))
      (pss_cons (ps_set (i := 6) scLDeed.nd rfl (.inl rfl) (pe_call F2 hr1 rfl T.g_law_pick k2 b2 .nil passL (pa_cons (pv 5) (pa_cons (pe_ix ix_list (pv 1) pe_int (fun _ _ => rfl)) (pa_cons (pe_tup (pa_cons (pv 3) (pa_cons (pe_op op_mod (pe_ix ix_list (pv 1) pe_int (fun _ _ => rfl)) pe_int) pa_nil))) pa_nil)))))
      (pss_cons (ps_set (i := 7) scLDeed.nd rfl (.inl rfl) (pe_call F2 hr1 rfl T.g_law_pick k2 b2 .nil passL (pa_cons (pe_ix ix_tup (pv 4) pe_int (fun _ _ => rfl)) (pa_cons (pe_ix ix_list (pv 1) pe_int (fun _ _ => rfl)) (pa_cons (pe_tup (pa_cons (pe_op op_mod (pe_ix ix_list (pv 1) pe_int (fun _ _ => rfl)) (pv 2)) (pa_cons pe_int pa_nil))) pa_nil)))))
      (pss_cons (ps_set (i := 8) scLDeed.nd rfl (.inl rfl) (pe_op op_mod (pe_ix ix_list (pv 1) pe_int (fun _ _ => rfl)) pe_int))
      (pss_pre (t' := tWays K)
      (pss_cons (ps_if (PW.pt (pw_and (pt_cmpR op_lt (pv 8) pe_int (nomark _)) (pw_and1 (pt_cmpR (op_neD hr.units) (pe_meth0 (pv 0) T.c_World T.m_World_letters F3 hr2 b3 .nil passL) (pe_lst pa_nil) (nomark _)))))
        (pss_one (ps_ret (pe_call F4 hr rfl T.g_law_come k4 b4 .nil passL (pa_cons (pv 0) (pa_cons (pe_ix ix_list (pv 1) pe_int (fun _ _ => rfl)) pa_nil))))) pss_nil)
      (pss_pre (t' := tWays K)
      (pss_cons (ps_if (pt_cmpR op_lt (pv 8) pe_int (nomark _)) (pss_one (ps_ret (pe_tup (pa_cons pe_str (pa_cons (pv 3) pa_nil))))) pss_nil)
      (pss_cons (ps_if (pt_cmpR op_lt (pv 8) pe_int (nomark _)) (pss_one (ps_ret (pe_tup (pa_cons pe_str (pa_cons (pv 3) (pa_cons (pv 6) (pa_cons (pv 7) pa_nil))))))) pss_nil)
      (pss_cons (ps_if (pt_cmpR op_eq (pv 8) pe_int (nomark _)) (pss_one (ps_ret (pe_tup (pa_cons pe_str (pa_cons (pv 3) (pa_cons (pv 6) (pa_cons (pe_call F2 hr1 rfl T.g_law_pick k2 b2 .nil passL (pa_cons (pe_call F5 hr1 rfl T.g_law_held_by k5 b5 .nil passL (pa_cons (pv 4) (pa_cons (pv 6) pa_nil))) (pa_cons (pe_ix ix_list (pv 1) pe_int (fun _ _ => rfl)) (pa_cons (pv 7) pa_nil)))) pa_nil))))))) pss_nil)
      (pss_cons (ps_if (pt_cmpR op_eq (pv 8) pe_int (nomark _)) (pss_one (ps_ret (pe_tup (pa_cons pe_str (pa_cons (pv 3) (pa_cons (pv 6) (pa_cons (pe_call F2 hr1 rfl T.g_law_pick k2 b2 .nil passL (pa_cons (pe_call F5 hr1 rfl T.g_law_held_by k5 b5 .nil passL (pa_cons (pv 4) (pa_cons (pv 6) pa_nil))) (pa_cons (pe_ix ix_list (pv 1) pe_int (fun _ _ => rfl)) (pa_cons (pv 7) pa_nil)))) pa_nil))))))) pss_nil)
      (pss_cons (ps_if (pt_cmpR op_lt (pv 8) pe_int (nomark _)) (pss_one (ps_ret (pe_tup (pa_cons pe_str (pa_cons (pv 3) (pa_cons (pv 7) pa_nil)))))) pss_nil)
      (pss_cons (ps_if (pt_cmpR op_lt (pv 8) pe_int (nomark _)) (pss_one (ps_ret (pe_tup (pa_cons pe_str (pa_cons (pv 3) (pa_cons (pe_op op_mod (pe_ix ix_list (pv 1) pe_int (fun _ _ => rfl)) (pv 2)) (pa_cons (pv 7) pa_nil))))))) pss_nil)
      (pss_cons (ps_if (PW.pt (pw_or (pt_cmpR op_eq (pv 8) pe_int (nomark _)) (pw_or1 (pt_cmpR op_gt (pe_callB call_len_seq rfl T.f_len boot_len (pa_cons (pe_meth0 (pv 0) T.c_World T.m_World_letters F3 hr2 b3 .nil passL) pa_nil)) pe_int (nomark _)))))
        (pss_one (ps_ret (pe_tup (pa_cons pe_str (pa_cons (pv 3) pa_nil))))) pss_nil)
      (pss_one (ps_ret (pe_tup (pa_cons pe_str (pa_cons (pv 3) pa_nil))))))))))))
      fun D σ H z => ?rest))
      fun D σ H z => ?ways)))))), ?_⟩
    case ways =>
      obtain ⟨wid, ow, a, px, M, ns, h, way, vs, va, vb, ta, tb, x5, x9, rfl, hw, hg, hn, hpos, eh, nmh, hpx, hns, hx0, dst, dva, dvb, nta, ntb, q⟩ := z
      obtain ⟨c4, a4, p4⟩ := cell_at hns hx0 4 (by decide)
      have go : ∀ H', Same H H' → tWays K D [some (.ref a), some (.ref px), some (.int (M.hs.length : Nat)), some (.int h), some vs, x5, some va, some vb, some (.int way), x9] H' := fun H' sm =>
        ⟨wid, ow, a, px, M, ns, h, way, vs, va, vb, ta, tb, x5, x9, rfl, hw.same sm, hg, hn, hpos, eh, nmh, sm _ _ hpx, hns, hx0, dst.mono (Same.ts sm), dva.mono (Same.ts sm), dvb.mono (Same.ts sm), nta, ntb, fun H2 v r s2 => q H2 v r (sm.trans s2)⟩
      obtain ⟨x0, hw0⟩ := id hw
      refine ⟨_, rfl, _, _, rfl, rfl, _, rfl, ?_⟩
      by_cases b1 : way < 6
      · refine iteT' (decide_eq_true b1) ⟨_, rfl, a, _, _, rfl, hw0.ob, wf_letters, wid, ow, a, M, rfl, hw, hg, fun H5 r ws s5 nr hr5 dws => ?_⟩
        refine ⟨(by show 0 ≤ sizeLine; exact Nat.zero_le _), fun p6 n6 => ?_⟩
        have s6 := s5.trans (same_new (o := .lst []) n6)
        replace dws := dws.mono (Same.ts (same_new (o := .lst []) n6))
        refine ⟨.list (M.letters.map dLt), .list [], .lst (SqL.of (keepL hr5 n6)) dws.dp, .lst (SqL.of upd_same) .nil, shaped_lts _, shaped_nil, _, rfl, ?_⟩
        generalize upd H5 p6 (.lst []) = H6 at s6 dws
        rw [eqv_nil]
        cases el : M.letters with
        | nil => exact iteF (go _ s6)
        | cons e0 l0 =>
          refine iteT ⟨_, rfl, _, rfl, px, _, _, _, rfl, rfl, SqL.of (s6 _ _ hpx), a4, wid, ow, a, M, c4, rfl, hw.same s6, hg, p4, fun H7 v r s8 dv hr => ?_⟩
          refine q _ _ r (s6.trans s8) dv ?_
          rcases hr with rfl | ⟨e, he, rfl⟩
          · exact ⟨rfl, okP1 ⟨by decide, by decide⟩, fun n z => by cases z⟩
          · exact ⟨rfl, okP1 (letters_n hn e he).1, fun n z => by cases z⟩
      · exact iteF' (decide_eq_false b1) (iteF (go _ (Same.refl _)))
    case rest =>
      obtain ⟨wid, ow, a, px, M, ns, h, way, vs, va, vb, ta, tb, x5, x9, rfl, hw, hg, hn, hpos, eh, nmh, hpx, hns, hx0, dst, dva, dvb, nta, ntb, q⟩ := z
      obtain ⟨c4, a4, p4⟩ := cell_at hns hx0 4 (by decide)
      obtain ⟨x0, hw0⟩ := id hw
      have nmx : ∀ x : Int, Nm (x % (M.hs.length : Nat)) := fun x => by
        have h1 := Int.emod_nonneg x (show ((M.hs.length : Nat) : Int) ≠ 0 by omega)
        have h2 := Int.emod_lt_of_pos x (show (0 : Int) < (M.hs.length : Nat) by omega)
        have := hg.hn
        exact ⟨h1, by omega⟩
      have heldN : ∀ t, (∃ e ∈ ((M.at h).state h).things, t ∈ e.2.2) → Nt t := fun t ⟨e, he, ht⟩ => (st_thing_n hn eh he).2 t ht
      refine ⟨_, rfl, _, _, rfl, rfl, _, rfl, ?_⟩
      by_cases b1 : way < 9
      · refine iteT' (decide_eq_true b1) ⟨_, rfl, (by show 2 ≤ sizeLine; decide), fun p np => ?_⟩
        exact q _ _ (.make h) (same_new np) (.tup upd_same (.cons (.str _) (.cons (.int _) .nil))) ⟨rfl, okP1 nmh, fun n z => by cases z⟩
      refine iteF' (decide_eq_false b1) ⟨_, rfl, _, _, rfl, rfl, _, rfl, ?_⟩
      by_cases b2 : way < 12
      · refine iteT' (decide_eq_true b2) ⟨_, rfl, _, rfl, _, rfl, (by show 4 ≤ sizeLine; decide), fun p np => ?_⟩
        exact q _ _ (.hold h ta tb) (same_new np) (.tup upd_same (.cons (.str _) (.cons (.int _) (.cons (dva.mono (Same.ts (same_new np))) (.cons (dvb.mono (Same.ts (same_new np))) .nil))))) ⟨rfl, okP3 nmh nta ntb, fun n z => by cases z⟩
      refine iteF' (decide_eq_false b2) ⟨_, rfl, rfl, _, rfl, ?_⟩
      by_cases b3 : way = 12
      · skip
        refine iteT' (by rw [b3]; rfl) ⟨_, rfl, _, rfl, _, rfl, _, rfl, vs, va, _, ta, rfl, dst, dva, fun H5 p5 w5 ts s5 hp5 dw5 hin => ?_⟩
        refine ⟨_, rfl, px, _, _, _, rfl, rfl, SqL.of (s5 _ _ hpx), a4, _, rfl, p5, w5, ts, c4, vb, tb, rfl, .inr (SqT.of hp5), dw5, dvb.mono (Same.ts s5), fun v t dv ht => ⟨(by show 4 ≤ sizeLine; decide), fun p np => ?_⟩⟩
        have nt : Nt t := ht.elim (fun z => z ▸ ntb) fun z => heldN t (hin t z)
        exact q _ _ (.drop h ta t) (s5.trans (same_new np)) (.tup upd_same (.cons (.str _) (.cons (.int _) (.cons ((dva.mono (Same.ts s5)).mono (Same.ts (same_new np))) (.cons (dv.mono (Same.ts (same_new np))) .nil))))) ⟨rfl, okP3 nmh nta nt, fun n z => by cases z⟩
      refine iteF' (decide_eq_false fun z => b3 (by injection z)) ⟨_, rfl, rfl, _, rfl, ?_⟩
      clear b3
      by_cases b3 : way = 13
      · skip
        refine iteT' (by rw [b3]; rfl) ⟨_, rfl, _, rfl, _, rfl, _, rfl, vs, va, _, ta, rfl, dst, dva, fun H5 p5 w5 ts s5 hp5 dw5 hin => ?_⟩
        refine ⟨_, rfl, px, _, _, _, rfl, rfl, SqL.of (s5 _ _ hpx), a4, _, rfl, p5, w5, ts, c4, vb, tb, rfl, .inr (SqT.of hp5), dw5, dvb.mono (Same.ts s5), fun v t dv ht => ⟨(by show 4 ≤ sizeLine; decide), fun p np => ?_⟩⟩
        have nt : Nt t := ht.elim (fun z => z ▸ ntb) fun z => heldN t (hin t z)
        exact q _ _ (.take h ta t) (s5.trans (same_new np)) (.tup upd_same (.cons (.str _) (.cons (.int _) (.cons ((dva.mono (Same.ts s5)).mono (Same.ts (same_new np))) (.cons (dv.mono (Same.ts (same_new np))) .nil))))) ⟨rfl, okP3 nmh nta nt, fun n z => by cases z⟩
      refine iteF' (decide_eq_false fun z => b3 (by injection z)) ⟨_, rfl, _, _, rfl, rfl, _, rfl, ?_⟩
      by_cases b4 : way < 16
      · refine iteT' (decide_eq_true b4) ⟨_, rfl, _, rfl, (by show 3 ≤ sizeLine; decide), fun p np => ?_⟩
        exact q _ _ (.free h tb) (same_new np) (.tup upd_same (.cons (.str _) (.cons (.int _) (.cons (dvb.mono (Same.ts (same_new np))) .nil)))) ⟨rfl, okP2 nmh ntb, fun n z => by cases z⟩
      refine iteF' (decide_eq_false b4) ⟨_, rfl, _, _, rfl, rfl, _, rfl, ?_⟩
      by_cases b5 : way < 18
      · refine iteT' (decide_eq_true b5) ⟨_, rfl, _, rfl, px, _, _, _, rfl, rfl, SqL.of hpx, a4, _, rfl, _, _, rfl, rfl, (by show (0 : Int) < _; omega), _, rfl, (by show 4 ≤ sizeLine; decide), fun p np => ?_⟩
        exact q _ _ (.send h (c4 % (M.hs.length : Nat)) tb) (same_new np) (.tup upd_same (.cons (.str _) (.cons (.int _) (.cons (.int _) (.cons (dvb.mono (Same.ts (same_new np))) .nil))))) ⟨rfl, okP3 nmh (nmx c4) ntb, fun n z => by cases z⟩
      refine iteF' (decide_eq_false b5) ⟨_, rfl, rfl, _, rfl, ?_⟩
      have clean : ∀ H', Same H H' → ∀ p, H' p = none → D.rt (.ref p) (upd H' p (.tup [.str "clean", .int h])) := fun H' s' p np =>
        q _ _ (.clean h) (s'.trans (same_new np)) (.tup upd_same (.cons (.str _) (.cons (.int _) .nil))) ⟨rfl, okP1 nmh, fun n z => by cases z⟩
      by_cases b6 : way = 18
      · refine iteT' (by rw [b6]; rfl) (iteT ⟨_, rfl, (by show 2 ≤ sizeLine; decide), fun p np => clean _ (Same.refl _) p np⟩)
      · refine iteF' (decide_eq_false fun z => b6 (by injection z)) ⟨_, rfl, a, _, _, rfl, hw0.ob, wf_letters, wid, ow, a, M, rfl, hw, hg, fun H5 r ws s5 nr hr5 dws => ?_⟩
        refine ⟨r, ws, rfl, .inl (SqL.of hr5), _, _, rfl, rfl, _, rfl, ?_⟩
        by_cases b7 : ((20 : Int) < (ws.length : Nat))
        · exact iteT' (decide_eq_true b7) ⟨_, rfl, (by show 2 ≤ sizeLine; decide), fun p np => clean _ s5 p np⟩
        · refine iteF' (decide_eq_false b7) ⟨_, rfl, (by show 2 ≤ sizeLine; decide), fun p np => ?_⟩
          exact q _ _ (.ask h) (s5.trans (same_new np)) (.tup upd_same (.cons (.str _) (.cons (.int _) .nil))) ⟨rfl, okP1 nmh, fun n z => by cases z; exact eh⟩
    obtain ⟨x0, hw0⟩ := id hw
    have hn4 := hg.hn
    obtain ⟨c1, a1, p1⟩ := cell_at hns hx0 1 (by decide)
    obtain ⟨c2, a2, p2⟩ := cell_at hns hx0 2 (by decide)
    obtain ⟨c3, a3, p3⟩ := cell_at hns hx0 3 (by decide)
    obtain ⟨c4, a4, p4⟩ := cell_at hns hx0 4 (by decide)
    obtain ⟨c0, a0, p0⟩ := cell_at hns hx0 0 (by decide)
    have hmn : ∀ x : Int, 0 ≤ x % (M.hs.length : Nat) ∧ x % (M.hs.length : Nat) < (M.hs.length : Nat) := fun x => ⟨Int.emod_nonneg x (by omega), Int.emod_lt_of_pos x (by omega)⟩
    have hh := hmn c1
    refine ⟨_, rfl, px, _, _, _, rfl, rfl, SqL.of hpx, a1, _, rfl, _, _, rfl, rfl, by show (0 : Int) < _; omega, ?_⟩
    show tSeq _ _ _ ([some (.ref a), some (.ref px), some (.int (M.hs.length : Nat)), some (.int (c1 % (M.hs.length : Nat)))] ++ [none, none, none, none, none, none]) H
    generalize c1 % (M.hs.length : Nat) = h at hh
    have eh : M.is h = true := Fm.is_iff.mpr hh
    have nmh : Nm h := ⟨hh.1, by omega⟩
    have nmx : ∀ x : Int, Nm (x % (M.hs.length : Nat)) := fun x => ⟨(hmn x).1, by have := (hmn x).2; omega⟩
    refine ⟨_, rfl, a, _, _, rfl, hw0.ob, wf_state, _, rfl, wid, ow, a, M, h, rfl, hw, hg, fun _ v H1 sm dst => ?_, fun e => by rw [eh] at e; cases e⟩
    obtain ⟨ps, q0, q1, q2, w0, w1, w2, rfl, eps, ⟨hq0, dh⟩, _⟩ := dst_at dst
    have hpx1 := sm _ _ hpx
    refine ⟨_, rfl, ps, _, _, _, rfl, rfl, SqT.of eps, atI_nat (j := 0) rfl, q0, rfl, ⟨_, SqT.of hq0⟩, fun D nD => ?_⟩
    have hvl : w0.length = ((M.at h).state h).hand.length := by rw [dh.length]; exact List.length_map ..
    have hhl := hand_len (i := h) (hg.hs _ _ (Fm.at_of eh)).2.1
    refine lc_it (walk_tup (a := q0) (xs := w0)) (fun i H' => ∃ acc, H' = upd H1 D (.lst acc) ∧ DVs H1 acc ((((M.at h).state h).hand.take i |>.filter fun t => decide (t.1 = h)).map dTh)) ⟨[], rfl, .nil⟩
      (fun i H' _ z => by obtain ⟨_, rfl, _⟩ := z; exact SqT.of (keepN hq0 nD)) ?_ ?_
    · rintro i v H7 H6 hi ⟨acc, rfl, hacc⟩ ⟨rfl, hv⟩
      obtain ⟨c, t, rfl, ht, hc⟩ := dvs_th dh hv
      have hc' := keepN (o := .lst acc) hc nD
      have eti := take_succ_at ht
      refine ⟨rfl, _, rfl, _, _, _, _, rfl, rfl, SqT.of hc', atI_nat (j := 0) rfl, _, rfl, rfl, _, rfl, ?_⟩
      rw [decV]
      by_cases cc : t.1 = h
      · rw [decide_eq_true cc]
        refine iteT ⟨_, rfl, acc, upd_same, ?_, acc ++ [.ref c], ?_, ?_⟩
        · rw [hacc.length, List.length_map, sizeLine_eq]
          have h1 := List.length_filter_le (fun t : Th => decide (t.1 = h)) (((M.at h).state h).hand.take i)
          have h2 := List.length_take_le' i ((M.at h).state h).hand
          omega
        · rw [upd_upd]
        · rw [eti, List.filter_append, List.filter_cons, if_pos (decide_eq_true cc), List.map_append]
          exact hacc.snoc (.mkTh hc)
      · rw [decide_eq_false cc]
        refine iteF ⟨acc, rfl, ?_⟩
        rw [eti, List.filter_append, List.filter_cons, if_neg (by simp [cc])]
        simpa using hacc
    · rintro H6 ⟨acc, rfl, hacc⟩
      rw [hvl, List.take_length] at hacc
      have hD : upd H1 D (.lst acc) D = some (.lst acc) := upd_same
      have s2 := sm.trans (same_new (o := .lst acc) nD)
      have t2 : TS H1 (upd H1 D (.lst acc)) := Same.ts (same_new nD)
      replace hacc := hacc.mono t2
      replace dst := dst.mono t2
      replace dh := dh.mono t2
      replace eps := t2 _ _ eps
      replace hq0 := t2 _ _ hq0
      have hpx2 : upd H1 D (.lst acc) px = some (.lst (ns.map V.int)) := s2 _ _ hpx
      generalize upd H1 D (.lst acc) = H2 at hD s2 hacc dst dh eps hq0 hpx2
      refine ⟨_, rfl, _, rfl, px, _, _, _, rfl, rfl, SqL.of hpx2, a2, _, rfl, _, rfl, px, _, _, _, rfl, rfl, SqL.of hpx2, a2, _, _, rfl, rfl, by show (0 : Int) < 3; decide, (by show 2 ≤ sizeLine; decide), fun p3 n3 => ?_⟩
      have t3 : TS H2 (upd H2 p3 (.tup [.int h, .int (c2 % 3)])) := Same.ts (same_new n3)
      have s3 := s2.trans (same_new (o := .tup [.int h, .int (c2 % 3)]) n3)
      refine ⟨D, acc, _, c2, .ref p3, (h, c2 % 3), rfl, .inl (SqL.of (keepL hD n3)), hacc.mono t3, .mkTh upd_same, fun va ta dva hta => ?_⟩
      replace dst := dst.mono t3
      replace dh := dh.mono t3
      replace eps := t3 _ _ eps
      replace hq0 := t3 _ _ hq0
      have hpx3 := s3 _ _ hpx
      have nta : Nt ta := by
        rcases hta with rfl | hta
        · exact ⟨nmh, by show 0 ≤ c2 % 3; omega, by show c2 % 3 < _; omega⟩
        · exact (hn.hn _ _ (Fm.at_of eh)).1 _ (st_hand (List.mem_filter.mp hta).1)
      generalize upd H2 p3 (.tup [.int h, .int (c2 % 3)]) = H3 at t3 s3 dva dst dh eps hq0 hpx3
      refine ⟨_, rfl, ps, _, _, _, rfl, rfl, SqT.of eps, atI_nat (j := 0) rfl, _, rfl, px, _, _, _, rfl, rfl, SqL.of hpx3, a3, _, rfl, px, _, _, _, rfl, rfl, SqL.of hpx3, a3, _, rfl, _, _, rfl, rfl, by show (0 : Int) < _; omega, (by show 2 ≤ sizeLine; decide), fun p4 n4 => ?_⟩
      have t4 : TS H3 (upd H3 p4 (.tup [.int (c3 % (M.hs.length : Nat)), .int 0])) := Same.ts (same_new n4)
      have s4 := s3.trans (same_new (o := .tup [.int (c3 % (M.hs.length : Nat)), .int 0]) n4)
      refine ⟨q0, w0, ((M.at h).state h).hand, c3, .ref p4, (c3 % (M.hs.length : Nat), 0), rfl, .inr (SqT.of (t4 _ _ hq0)), dh.mono t4, .mkTh upd_same, fun vb tb dvb htb => ?_⟩
      replace dva := dva.mono t4
      replace dst := dst.mono t4
      have hpx4 := s4 _ _ hpx
      have ntb : Nt tb := by
        rcases htb with rfl | htb
        · exact ⟨nmx c3, by show (0 : Int) ≤ 0; decide, by show (0 : Int) < 1000000000; decide⟩
        · exact (hn.hn _ _ (Fm.at_of eh)).1 _ (st_hand htb)
      generalize upd H3 p4 (.tup [.int (c3 % (M.hs.length : Nat)), .int 0]) = H4 at t4 s4 dva dvb dst hpx4
      have w4 := hw.same s4
      refine ⟨_, rfl, px, _, _, _, rfl, rfl, SqL.of hpx4, a0, _, _, rfl, rfl, by show (0 : Int) < 20; decide, ?_⟩
      exact ⟨wid, ow, a, px, M, ns, h, c0 % 20, _, va, vb, ta, tb, _, _, rfl, w4, hg, hn, hpos, eh, nmh, hpx4, hns, hx0, dst, dva, dvb, nta, ntb, fun H' v r sm' dv ha => q H' v r (s4.trans sm') dv ha⟩
end
end Fh

set_option Elab.async false
set_option linter.all false
set_option maxRecDepth 100000
set_option maxHeartbeats 4000000
namespace Fh
open PySem PySem.Spec L2 FhR FhH L2H
open Fm (Th Hs StD Wd Er HG HB HSm Sts SZ Inq Lt Ab WG ArrOk)
/-- any number of the script's -/
def spLCell (K : PySem.W.Frag) : Sp := fun vs H Q _ => ∃ (p : Addr) (ns : List Int) (k : Nat), vs = [.ref p, .int (k : Int)] ∧ SqL K H p (ns.map V.int) ∧ k < 1000 ∧ ∀ y, Q (.int y) H
def spLStream : Sp := fun vs H Q _ => ∃ (c : Int), vs = [.int c, .int 7] ∧ ∀ (H' : Hp) (p : Addr) (ns : List Int), Same H H' → H p = none → H' p = some (.lst (ns.map V.int)) → ns.length = 7 → (∀ x ∈ ns, 0 ≤ x) → Q (.ref p) H'
section
variable {P : Program} {w : World} {K : PySem.W.Frag} {mg : Str → Option Value} {base : Heap}
theorem scLCell : FnScope ["_law_script", "_law_k", "_law_number"] ["_law_script", "_law_k"] (defScope s_l_cell) := ⟨rfl, rfl, rfl, by decide +kernel, rfl, by decide +kernel, by decide +kernel⟩
theorem ok_lcell (T : Tx K mg) : Ok P w K mg base 1 d_l_cell ["_law_script", "_law_k"] (spLCell K) := by
  refine Ok.mk T 69 rfl ⟨rfl, rfl⟩ scLCell (fun vs H Q E h => ?_) (fun _ _ _ _ _ _ us hl => match us, hl with | [_, _], _ => rfl) (fun cdv A outer s H vs Q E hr h => ?_)
  · obtain ⟨p, ns, k, rfl, _⟩ := h
    rfl
  · obtain ⟨p, ns, k, rfl, hp, hk, q⟩ := h
    refine ⟨_, pss_cons (ps_if (pt_cmpR op_lt (pv 1) (pe_callB call_len_seq rfl T.f_len boot_len (pa_cons (pv 0) pa_nil)) (nomark _)) (pss_one (ps_ret (pe_ix ix_list (pv 0) (pv 1) (fun _ _ => rfl)))) pss_nil)
      (pss_cons (ps_set (i := 2) scLCell.nd rfl (.inl rfl) (pe_op op_add (pe_op op_mul (pv 1) pe_int) pe_int))
      (pss_cons (ps_if (pt_cmpR op_gt (pe_callB call_len_seq rfl T.f_len boot_len (pa_cons (pv 0) pa_nil)) pe_int (nomark _))
        (pss_one (ps_set (i := 2) scLCell.nd rfl (.inl rfl) (pe_op op_mod (pe_op op_add (pe_op op_mul (pe_ix ix_list (pv 0) (pe_op op_mod (pe_op op_mul (pv 1) pe_int) (pe_callB call_len_seq rfl T.f_len boot_len (pa_cons (pv 0) pa_nil))) (fun _ _ => rfl)) pe_int) (pe_op op_mul (pv 1) pe_int)) pe_int))) pss_nil)
      (pss_one (ps_ret (pe_op op_mod (pe_op op_mul (pv 2) (pv 2)) pe_int))))), ?_⟩
    have hl : (ns.map V.int).length = ns.length := List.length_map ..
    refine ⟨_, rfl, _, rfl, p, _, rfl, .inl hp, _, _, rfl, rfl, _, rfl, ?_⟩
    rw [hl]
    have fin : ∀ x : Int, -(2 ^ 64) < x → x < 2 ^ 64 → tRet (tOp (rI (fun _ j => 0 < j) fun i j => .int (i % j)) (tOp (rI CMul fun i j => .int (i * j)) (tVar 2) (tVar 2)) (tC (.int 2147483629))) { nx := fun _ H' => Q .non H', rt := Q } [some (.ref p), some (.int (k : Int)), some (.int x)] H := fun x h1 h2 =>
      ⟨_, rfl, _, rfl, _, _, rfl, rfl, .inl ⟨h1, h2⟩, _, _, rfl, rfl, (by show (0 : Int) < 2147483629; decide), q _⟩
    by_cases b1 : k < ns.length
    · refine iteT' (decide_eq_true (by omega)) ⟨_, rfl, _, rfl, p, _, _, _, rfl, rfl, hp, atI_nat (by rw [List.getElem?_map, List.getElem?_eq_getElem b1]; rfl), q _⟩
    refine iteF' (decide_eq_false (by omega)) ?_
    refine ⟨_, rfl, _, _, rfl, rfl, .inr ⟨by decide, by decide⟩, _, _, rfl, rfl, ?_⟩
    refine ⟨_, rfl, p, _, rfl, .inl hp, _, _, rfl, rfl, _, rfl, ?_⟩
    rw [hl]
    by_cases b2 : 0 < ns.length
    · refine iteT' (decide_eq_true (by omega)) ?_
      have h1 := Int.emod_nonneg ((k : Int) * 7) (show ((ns.length : Nat) : Int) ≠ 0 by omega)
      have h2 := Int.emod_lt_of_pos ((k : Int) * 7) (show (0 : Int) < (ns.length : Nat) by omega)
      obtain ⟨j, hj⟩ : ∃ j : Nat, (k : Int) * 7 % (ns.length : Nat) = (j : Int) := ⟨((k : Int) * 7 % (ns.length : Nat)).toNat, by omega⟩
      have hjl : j < ns.length := by omega
      refine ⟨_, rfl, _, rfl, _, _, rfl, rfl, .inr ⟨by decide, by decide⟩, _, rfl, p, _, rfl, .inl hp, _, _, rfl, rfl, by rw [hl]; omega, ?_⟩
      rw [hl]
      have hat : atI (ns.map V.int) ((k : Int) * 7 % (ns.length : Nat)) = some (.int ns[j]) := by rw [hj]; exact atI_nat (by rw [List.getElem?_map, List.getElem?_eq_getElem hjl]; rfl)
      refine ⟨p, _, _, _, rfl, rfl, hp, hat, _, _, rfl, rfl, .inr ⟨by decide, by decide⟩, _, rfl, _, _, rfl, rfl, .inr ⟨by decide, by decide⟩, _, _, rfl, rfl, _, _, rfl, rfl, (by show (0 : Int) < 2147483647; decide), ?_⟩
      have h3 := Int.emod_nonneg (ns[j] * 48271 + (k : Int) * 7919) (show (2147483647 : Int) ≠ 0 by decide)
      have h4 := Int.emod_lt_of_pos (ns[j] * 48271 + (k : Int) * 7919) (show (0 : Int) < 2147483647 by decide)
      exact fin _ (by omega) (by omega)
    · exact iteF' (decide_eq_false (by omega)) (fin _ (by omega) (by omega))
theorem scLStream : FnScope ["_law_cell_here", "_law_many", "_law_xs", "_law_number", "_law_k"] ["_law_cell_here", "_law_many"] (defScope s_l_stream) := ⟨rfl, rfl, rfl, by decide +kernel, rfl, by decide +kernel, by decide +kernel⟩
theorem ok_lstream (T : Tx K mg) : Ok P w K mg base 1 d_l_stream ["_law_cell_here", "_law_many"] spLStream := by
  refine Ok.mk T 70 rfl ⟨rfl, rfl⟩ scLStream (fun vs H Q E h => ?_) (fun _ _ _ _ _ _ us hl => match us, hl with | [_, _], _ => rfl) (fun cdv A outer s H vs Q E hr h => ?_)
  · obtain ⟨c, rfl, _⟩ := h
    rfl
  · obtain ⟨c, rfl, q⟩ := h
    refine ⟨_, pss_cons (ps_set (i := 2) scLStream.nd rfl (.inl rfl) (pe_lst pa_nil))
      (pss_cons (ps_set (i := 3) scLStream.nd rfl (.inl rfl) (pe_op op_mod (pv 0) pe_int))
      (pss_cons (ps_for (passes_of rfl) rfl (pi_range1 rfl T.f_range (pa_cons (pv 1) pa_nil)) (pg_name (i := 4) scLStream.nd rfl (.inl rfl))
        (pss_cons (ps_set (i := 3) scLStream.nd rfl (.inl rfl) (pe_op op_mod (pe_op op_add (pe_op op_mul (pv 3) pe_int) pe_int) pe_int))
        (pss_one (ps_expr (pe_bm PySem.F.plainAttrs_list PySem.F.slot_list_append PySem.F.type_list_append mt_append (pv 2) (pa_cons (pv 3) pa_nil))))))
      (pss_one (ps_ret (pv 2))))), ?_⟩
    refine ⟨(by show 0 ≤ sizeLine; exact Nat.zero_le _), fun p np => ?_⟩
    refine ⟨_, rfl, _, _, rfl, rfl, (by show (0 : Int) < 2147483647; decide), ?_⟩
    refine ⟨_, rfl, _, rfl, by decide, by decide, ?_⟩
    refine for_it walk_range (fun j σ H' => ∃ (v4 : Option V) (ns : List Int) (y : Int), σ = [some (.int c), some (.int 7), some (.ref p), some (.int y), v4] ∧ H' = upd H p (.lst (ns.map V.int)) ∧ ns.length = j ∧ (∀ x ∈ ns, 0 ≤ x))
      ⟨_, [], _, rfl, rfl, rfl, fun x hx => nomatch hx⟩ (fun _ _ _ _ _ => True.intro) ?_ ?_
    · rintro j v σ H5 H4 hj ⟨v4, ns, y, rfl, rfl, hl, h0⟩ ⟨rfl, ev⟩
      have hj : j < 7 := hj
      refine ⟨_, rfl, _, _, rfl, rfl, .inr ⟨by decide, by decide⟩, _, _, rfl, rfl, _, _, rfl, rfl, (by show (0 : Int) < 2147483647; decide), ?_⟩
      refine ⟨_, rfl, .inl ⟨rfl, _, SqL.of upd_same⟩, _, rfl, p, _, _, rfl, rfl, upd_same, ?_, _, ns ++ [(y * 48271 + 12345) % 2147483647], (y * 48271 + 12345) % 2147483647, rfl, ?_, by rw [List.length_append, hl]; rfl, fun x hx => ?_⟩
      · rw [List.length_map, hl, sizeLine_eq]; omega
      · rw [upd_upd, List.map_append]; rfl
      · rcases List.mem_append.mp hx with hx | hx
        · exact h0 x hx
        · rcases List.mem_singleton.mp hx with rfl
          exact Int.emod_nonneg _ (by decide)
    · rintro σ H4 ⟨v4, ns, y, rfl, rfl, hl, h0⟩
      exact ⟨_, rfl, q _ p ns (same_new np) np upd_same hl h0⟩
end
end Fh

set_option Elab.async false
set_option linter.all false
set_option maxRecDepth 100000
set_option maxHeartbeats 4000000
namespace Fh
open PySem PySem.Spec L2 FhR FhH L2H
open Fm (Th Hs StD Wd Er HG HB HSm Sts SZ Inq Lt Ab WG ArrOk)
theorem pe_or {X : Cx} {e : Expr} {t1 t2 : TE} (h1 : PE X e t1) (h2 : PE X e t2) : PE X e fun σ H Q => t1 σ H Q ∨ t2 σ H Q :=
  ⟨fun pins s σ H Q I h => h.elim (h1.run pins s σ H Q I) (h2.run pins s σ H Q I)⟩
/-- what is due at a row -/
def dDue (M : Wd) (r : Row) : PyData := match ansR M r with
  | .ok (_, x) => dDone (.str x)
  | .error e => dRef e
theorem dDue_ok {M M' : Wd} {r : Row} {x : Str} (e : ansR M r = .ok (M', x)) : dDue M r = dDone (.str x) := by unfold dDue; rw [e]
theorem dDue_er {M : Wd} {r : Row} {x : Er} (e : ansR M r = .error x) : dDue M r = dRef x := by unfold dDue; rw [e]
def spLHoldsOf (K : PySem.W.Frag) : Sp := fun vs H Q _ => ∃ (wid : Nat) (ow : Ow) (a : Addr) (M : Wd) (va : V) (t : Th), vs = [.ref a, va, .int (M.hs.length : Nat)] ∧ DV H va (dTh t) ∧ WAt K wid H ow a M ∧ WG M ∧ WN M ∧ 0 ≤ t.1 ∧
  ∀ H' v, Same H H' → DV H' v (dDue M (.holds t)) → Q v H'
def spLThingsOf (K : PySem.W.Frag) : Sp := fun vs H Q _ => ∃ (wid : Nat) (ow : Ow) (a : Addr) (M : Wd) (h : Int) (b : Bool), vs = [.ref a, .int h, .int (if b = true then 1 else 0), .int (M.hs.length : Nat)] ∧ WAt K wid H ow a M ∧ WG M ∧ WN M ∧ 0 ≤ h ∧
  ∀ H' v, Same H H' → DV H' v (dDue M (if b = true then .things h else .hand h)) → Q v H'
section
variable {P : Program} {w : World} {K : PySem.W.Frag} {mg : Str → Option Value} {base : Heap}
theorem scLHoldsOf : FnScope ["_law_world", "_law_a", "_law_many", "_law_thing_here", "_law_out", "_law_holds", "_law_one"] ["_law_world", "_law_a", "_law_many"] (defScope s_l_holds_of) := ⟨rfl, rfl, rfl, by decide +kernel, rfl, by decide +kernel, by decide +kernel⟩
theorem ok_lholds (T : Tx K mg) : Ok P w K mg base 3 d_l_holds_of ["_law_world", "_law_a", "_law_many"] (spLHoldsOf K) := by
  obtain ⟨f1, F1, b1, k1⟩ := ok_wstate (P := P) (w := w) (base := base) T
  obtain ⟨f2, F2, b2, k2⟩ := ok_lthing (P := P) (w := w) (base := base) T
  obtain ⟨f6, F6, b6, k6⟩ := ok_llisted (P := P) (w := w) (base := base) T
  refine Ok.mk T 82 rfl ⟨rfl, rfl⟩ scLHoldsOf (fun vs H Q E h => ?_) (fun _ _ _ _ _ _ us hl => match us, hl with | [_, _, _], _ => rfl) (fun cdv A outer s H vs Q E hr h => ?_)
  · obtain ⟨wid, ow, a, M, va, t, rfl, _⟩ := h
    rfl
  · obtain ⟨wid, ow, a, M, va, t, rfl, dv, hw, hg, hn, ht0, q⟩ := h
    have hr1 := hr.mono (show 1 ≤ 2 by decide)
    refine ⟨_, pss_cons (ps_if (pt_cmpR op_ge (pe_ix ix_tup (pv 1) pe_int (fun _ _ => rfl)) (pv 2) (nomark _)) (pss_one (ps_ret (pe_tup (pa_cons pe_str (pa_cons pe_int pa_nil))))) pss_nil)
      (pss_cons (ps_for (passes_of rfl) rfl (pi_tup (pe_ix ix_tup (pe_meth (pv 0) T.c_World T.m_World_state F1 hr b1 .nil (passC (takes_of rfl rfl rfl rfl)) (pa_cons (pe_ix ix_tup (pv 1) pe_int (fun _ _ => rfl)) pa_nil)) pe_int (fun _ _ => rfl)))
        (pg_tup rfl (pgs_cons (pg_name (i := 3) scLHoldsOf.nd rfl (.inl rfl)) (pgs_cons (pg_name (i := 4) scLHoldsOf.nd rfl (.inl rfl)) (pgs_cons (pg_name (i := 5) scLHoldsOf.nd rfl (.inl rfl)) pgs_nil))))
        (pss_one (ps_if (pt_cmpR (op_eqD hr.units) (pv 3) (pv 1) (nomark _))
          (pss_one (ps_ret (pe_tup (pa_cons pe_str (pa_cons (pe_call F6 hr1 rfl T.g_law_listed k6 b6 .nil passL (pa_cons (pe_lc (own := [("_law_one", 6)]) (g := gName 6) (tt := tYes) (te := tCall spThText [] E0 (tCons (tVar 6) tNil)) rfl scLHoldsOf.nd (pi_tup (pv 5))
            (blkOk_by (own := [("_law_one", 6)]) (N := ["_law_world", "_law_a", "_law_many", "_law_thing_here", "_law_out", "_law_holds", "_law_one"]) (sc := defScope s_l_holds_of) (by decide +kernel))
            (fun _ _ _ _ _ => pg_name (i := 6) scLHoldsOf.nd rfl (.inl rfl)) (fun _ _ _ _ _ => pts_nil) (fun _ _ _ _ _ => pe_call F2 hr1 rfl T.g_law_thing k2 b2 .nil passL (pa_cons (pv 6) pa_nil))) pa_nil)) pa_nil))))) pss_nil)))
      (pss_one (ps_ret (pe_tup (pa_cons pe_str (pa_cons pe_int pa_nil)))))), ?_⟩
    obtain ⟨x0, hw0⟩ := id hw
    obtain ⟨c, rfl, hc⟩ := id dv.th
    refine ⟨_, rfl, _, _, _, _, rfl, rfl, SqT.of hc, atI_nat (j := 0) rfl, _, rfl, _, _, rfl, rfl, _, rfl, ?_⟩
    by_cases hin : ((M.hs.length : Nat) : Int) ≤ t.1
    · refine iteT' (decide_eq_true hin) ⟨(by show 2 ≤ sizeLine; decide), fun p np => ?_⟩
      have e : M.is t.1 = false := by
        cases z : M.is t.1 with
        | false => rfl
        | true => have := (Fm.is_iff.mp z).2; omega
      refine q _ _ (same_new np) ?_
      rw [dDue_er (show ansR M (.holds t) = .error .noHouse by simp only [ansR, e]; rfl)]
      exact .tup upd_same (.cons (.str _) (.cons (.int _) .nil))
    · have e : M.is t.1 = true := Fm.is_iff.mpr ⟨ht0, by omega⟩
      refine iteF' (decide_eq_false hin) ?_
      refine ⟨_, rfl, a, _, _, rfl, hw0.ob, wf_state, _, rfl, _, _, _, _, rfl, rfl, SqT.of hc, atI_nat (j := 0) rfl, wid, ow, a, M, t.1, rfl, hw, hg, fun _ v H1 sm dst => ?_, fun z => by rw [e] at z; cases z⟩
      obtain ⟨ps, xs, qq, ws, rfl, hps, hat, hqq, dws⟩ := dst_things dst
      have hB := (hg.hs _ _ (Fm.at_of e)).2.1
      have hlen : ws.length = ((M.at t.1).state t.1).things.length := by rw [dws.length]; exact List.length_map ..
      have hal := things_len (i := t.1) hB
      refine ⟨_, _, _, _, rfl, rfl, SqT.of hps, hat, qq, rfl, ⟨_, SqT.of hqq⟩, ?_⟩
      refine for_it (walk_tup (a := qq) (xs := ws)) (fun j σ H' => ∃ v2 v3 v4 : Option V, σ = [some (.ref a), some (.ref c), some (.int (M.hs.length : Nat)), v2, v3, v4, none] ∧ H' = H1 ∧ ∀ y ∈ ((M.at t.1).state t.1).things.take j, decide (y.1 = t) = false)
        ⟨_, _, _, rfl, rfl, fun y hy => by simp at hy⟩ (fun j σ H' _ z => by obtain ⟨_, _, _, _, rfl, _⟩ := z; exact SqT.of hqq) ?_ ?_
      · rintro j v σ H5 H4 hj ⟨v2, v3, v4, rfl, rfl, hnot⟩ ⟨rfl, hv⟩
        obtain ⟨dd, hd1, hdv⟩ := dws.get hv
        obtain ⟨y, hy, rfl⟩ := map_at hd1
        obtain ⟨b, c2, vh, rfl, hb, hc2, dvh⟩ := dEntE hdv
        obtain ⟨pt, wt, rfl, hpt, dwt⟩ := DV.tupE dvh
        have et := take_succ_at hy
        have hym : y ∈ ((M.at t.1).state t.1).things := List.mem_of_getElem? hy
        refine ⟨b, _, rfl, SqT.of hb, rfl, _, _, rfl, _, _, rfl, _, _, rfl, rfl, ?_⟩
        refine ⟨_, rfl, _, rfl, dTh y.1, dTh t, (DV.mkTh hc2).dp, (dv.mono (Same.ts sm)).dp, shaped_th _, shaped_th _, _, rfl, ?_⟩
        rw [eqv_th]
        by_cases cy : y.1 = t
        · rw [decide_eq_true cy]
          have hN := (st_thing_n hn e hym).2
          have hL := things_holds hB hym
          refine iteT ⟨_, rfl, pt, rfl, ⟨_, SqT.of hpt⟩, fun D nD => ?_⟩
          refine lc_map y.2.2 dTh thS (walk_tup (a := pt) (xs := wt)) rfl nD dwt (by omega) (fun acc => SqT.of (keepN hpt nD)) (fun v => rfl) (fun x hx v H3 Q3 dv3 q3 => ⟨_, rfl, v, x, rfl, dv3, hN x hx, q3⟩) ?_
          refine ⟨D, y.2.2.map thS, rfl, upd_same, by rw [List.length_map]; omega, ths_ok hN, fun H4 s4 => ⟨(by show 2 ≤ sizeLine; decide), fun p np => ?_⟩⟩
          have ea : ansR M (.holds t) = .ok (M, listS (y.2.2.map thS)) := by
            simp only [ansR, e, if_true, holdsAns]
            rw [find_at hy (decide_eq_true cy) hnot]
          refine q _ _ (((sm.trans (same_new nD)).trans s4).trans (same_new np)) ?_
          rw [dDue_ok ea]
          exact .tup upd_same (.cons (.str _) (.cons (.str _) .nil))
        · rw [decide_eq_false cy]
          refine iteF ⟨_, _, _, rfl, rfl, fun z hz => ?_⟩
          rw [et] at hz
          rcases List.mem_append.mp hz with hz | hz
          · exact hnot z hz
          · rw [List.mem_singleton.mp hz]
            exact decide_eq_false cy
      · rintro σ H4 ⟨v2, v3, v4, rfl, rfl, hnot⟩
        rw [hlen, List.take_length] at hnot
        have ea : ansR M (.holds t) = .error .missing := by
          simp only [ansR, e, if_true, holdsAns]
          rw [find_none hnot]
        refine ⟨(by show 2 ≤ sizeLine; decide), fun p np => ?_⟩
        refine q _ _ (sm.trans (same_new np)) ?_
        rw [dDue_er ea]
        exact .tup upd_same (.cons (.str _) (.cons (.int _) .nil))
theorem scLThingsOf : FnScope ["_law_world", "_law_h", "_law_at", "_law_many", "_law_things", "_law_row", "_law_thing_here"] ["_law_world", "_law_h", "_law_at", "_law_many"] (defScope s_l_things_of) := ⟨rfl, rfl, rfl, by decide +kernel, rfl, by decide +kernel, by decide +kernel⟩
theorem ok_lthings (T : Tx K mg) : Ok P w K mg base 3 d_l_things_of ["_law_world", "_law_h", "_law_at", "_law_many"] (spLThingsOf K) := by
  obtain ⟨f1, F1, b1, k1⟩ := ok_wstate (P := P) (w := w) (base := base) T
  obtain ⟨f2, F2, b2, k2⟩ := ok_lthing (P := P) (w := w) (base := base) T
  obtain ⟨f6, F6, b6, k6⟩ := ok_llisted (P := P) (w := w) (base := base) T
  refine Ok.mk T 81 rfl ⟨rfl, rfl⟩ scLThingsOf (fun vs H Q E h => ?_) (fun _ _ _ _ _ _ us hl => match us, hl with | [_, _, _, _], _ => rfl) (fun cdv A outer s H vs Q E hr h => ?_)
  · obtain ⟨wid, ow, a, M, h, b, rfl, _⟩ := h
    rfl
  · obtain ⟨wid, ow, a, M, h, b, rfl, hw, hg, hn, ht0, q⟩ := h
    have hr1 := hr.mono (show 1 ≤ 2 by decide)
    refine ⟨_, pss_cons (ps_if (pt_cmpR op_ge (pv 1) (pv 3) (nomark _)) (pss_one (ps_ret (pe_tup (pa_cons pe_str (pa_cons pe_int pa_nil))))) pss_nil)
      (pss_cons (ps_set (i := 4) scLThingsOf.nd rfl (.inl rfl) (pe_ix ix_tup (pe_meth (pv 0) T.c_World T.m_World_state F1 hr b1 .nil (passC (takes_of rfl rfl rfl rfl)) (pa_cons (pv 1) pa_nil)) (pv 2) (fun _ _ => rfl)))
      (pss_cons (ps_if (pt_cmpR op_eq (pv 2) pe_int (nomark _))
        (pss_one (ps_setLc (i := 4) (own := [("_law_row", 5)]) (g := gName 5) (tt := tYes) (te := tOp (rIxT K) (tVar 5) (tC (.int 0))) rfl scLThingsOf.nd rfl rfl (sw_true rfl rfl rfl rfl) (pi_tup (pv 4))
          (blkOk_by (own := [("_law_row", 5)]) (N := ["_law_world", "_law_h", "_law_at", "_law_many", "_law_things", "_law_row", "_law_thing_here"]) (sc := defScope s_l_things_of) (by decide +kernel))
          (fun _ _ _ _ _ => pg_name (i := 5) scLThingsOf.nd rfl (.inl rfl)) (fun _ _ _ _ _ => pts_nil) (fun _ _ _ _ _ => pe_ix ix_tup (pv 5) pe_int (fun _ _ => rfl)))) pss_nil)
      (pss_one (ps_ret (pe_tup (pa_cons pe_str (pa_cons (pe_call F6 hr1 rfl T.g_law_listed k6 b6 .nil passL (pa_cons
          (pe_or
            (pe_lc (own := [("_law_thing_here", 6)]) (g := gName 6) (tt := tYes) (te := tCall spThText [] E0 (tCons (tVar 6) tNil)) rfl scLThingsOf.nd (pi_tup (pv 4))
              (blkOk_by (own := [("_law_thing_here", 6)]) (N := ["_law_world", "_law_h", "_law_at", "_law_many", "_law_things", "_law_row", "_law_thing_here"]) (sc := defScope s_l_things_of) (by decide +kernel))
              (fun _ _ _ _ _ => pg_name (i := 6) scLThingsOf.nd rfl (.inl rfl)) (fun _ _ _ _ _ => pts_nil) (fun _ _ _ _ _ => pe_call F2 hr1 rfl T.g_law_thing k2 b2 .nil passL (pa_cons (pv 6) pa_nil)))
            (pe_lc (own := [("_law_thing_here", 6)]) (g := gName 6) (tt := tYes) (te := tCall spThText [] E0 (tCons (tVar 6) tNil)) rfl scLThingsOf.nd (pi_list (pv 4))
              (blkOk_by (own := [("_law_thing_here", 6)]) (N := ["_law_world", "_law_h", "_law_at", "_law_many", "_law_things", "_law_row", "_law_thing_here"]) (sc := defScope s_l_things_of) (by decide +kernel))
              (fun _ _ _ _ _ => pg_name (i := 6) scLThingsOf.nd rfl (.inl rfl)) (fun _ _ _ _ _ => pts_nil) (fun _ _ _ _ _ => pe_call F2 hr1 rfl T.g_law_thing k2 b2 .nil passL (pa_cons (pv 6) pa_nil)))) pa_nil)) pa_nil))))))), ?_⟩
    obtain ⟨x0, hw0⟩ := id hw
    refine ⟨_, rfl, _, rfl, _, _, rfl, rfl, _, rfl, ?_⟩
    by_cases hin : ((M.hs.length : Nat) : Int) ≤ h
    · refine iteT' (decide_eq_true hin) ⟨(by show 2 ≤ sizeLine; decide), fun p np => ?_⟩
      have e : M.is h = false := by
        cases z : M.is h with
        | false => rfl
        | true => have := (Fm.is_iff.mp z).2; omega
      refine q _ _ (same_new np) ?_
      rw [dDue_er (show ansR M (if b = true then .things h else .hand h) = .error .noHouse by
        cases b with
        | false => show ansR M (.hand h) = _; simp only [ansR, e]; rfl
        | true => show ansR M (.things h) = _; simp only [ansR, e]; rfl)]
      exact .tup upd_same (.cons (.str _) (.cons (.int _) .nil))
    · have e : M.is h = true := Fm.is_iff.mpr ⟨ht0, by omega⟩
      have hB := (hg.hs _ _ (Fm.at_of e)).2.1
      refine iteF' (decide_eq_false hin) ?_
      refine ⟨_, rfl, a, _, _, rfl, hw0.ob, wf_state, _, rfl, wid, ow, a, M, h, rfl, hw, hg, fun _ v H1 sm dst => ?_, fun z => by rw [e] at z; cases z⟩
      cases b with
      | false =>
        obtain ⟨ps, xs, qq, ws, rfl, hps, hat, hqq, dws⟩ := dst_hand dst
        have hN := (hn.hn _ _ (Fm.at_of e)).1
        have hL := hand_len (i := h) hB
        refine ⟨_, rfl, _, _, _, _, rfl, rfl, SqT.of hps, hat, _, rfl, rfl, _, rfl, iteF' (by decide) ?_⟩
        refine .inl ⟨_, rfl, qq, rfl, ⟨_, SqT.of hqq⟩, fun D nD => ?_⟩
        refine lc_map ((M.at h).state h).hand dTh thS (walk_tup (a := qq) (xs := ws)) rfl nD dws (by omega) (fun acc => SqT.of (keepN hqq nD)) (fun v => rfl) (fun x hx v H3 Q3 dv3 q3 => ⟨_, rfl, v, x, rfl, dv3, hN x (st_hand hx), q3⟩) ?_
        refine ⟨D, ((M.at h).state h).hand.map thS, rfl, upd_same, by rw [List.length_map]; omega, ths_ok fun t ht => hN t (st_hand ht), fun H4 s4 => ⟨(by show 2 ≤ sizeLine; decide), fun p np => ?_⟩⟩
        refine q _ _ (((sm.trans (same_new nD)).trans s4).trans (same_new np)) ?_
        rw [dDue_ok (show ansR M (if false = true then .things h else .hand h) = .ok (M, listS (((M.at h).state h).hand.map thS)) by show ansR M (.hand h) = _; simp only [ansR, e, if_true])]
        exact .tup upd_same (.cons (.str _) (.cons (.str _) .nil))
      | true =>
        obtain ⟨ps, xs, qq, ws, rfl, hps, hat, hqq, dws⟩ := dst_things dst
        have hL := things_len (i := h) hB
        have hwl : ws.length = ((M.at h).state h).things.length := by rw [dws.length]; exact List.length_map ..
        refine ⟨_, rfl, _, _, _, _, rfl, rfl, SqT.of hps, hat, _, rfl, rfl, _, rfl, iteT' (by decide) ?_⟩
        refine ⟨_, rfl, qq, rfl, ⟨_, SqT.of hqq⟩, fun D nD => ?_⟩
        refine lc_it (walk_tup (a := qq) (xs := ws)) (fun i H' => ∃ acc, H' = upd H1 D (.lst acc) ∧ DVs H1 acc ((((M.at h).state h).things.take i).map fun e => dTh e.1)) ⟨[], rfl, .nil⟩
          (fun i H' _ z => by obtain ⟨_, rfl, _⟩ := z; exact SqT.of (keepN hqq nD)) ?_ ?_
        · rintro i v H7 H6 hi ⟨acc, rfl, hacc⟩ ⟨rfl, hv⟩
          obtain ⟨dd, hd1, hdv⟩ := dws.get hv
          obtain ⟨y, hy, rfl⟩ := map_at hd1
          obtain ⟨bb, c2, vh, rfl, hb, hc2, dvh⟩ := dEntE hdv
          have eti := take_succ_at hy
          refine ⟨rfl, ?_⟩
          show tOp (rIxT K) (tVar 5) (tC (.int 0)) _ _ _
          refine ⟨_, rfl, _, _, _, _, rfl, rfl, SqT.of (keepN (o := .lst acc) hb nD), atI_nat (j := 0) rfl, acc, upd_same, ?_, acc ++ [.ref c2], ?_, ?_⟩
          · rw [hacc.length, List.length_map, sizeLine_eq]
            have h2 := List.length_take_le' i ((M.at h).state h).things
            omega
          · rw [upd_upd]
          · rw [eti, List.map_append]
            exact hacc.snoc (.mkTh hc2)
        · rintro H6 ⟨acc, rfl, hacc⟩
          rw [hwl, List.take_length] at hacc
          have hD : upd H1 D (.lst acc) D = some (.lst acc) := upd_same
          have s2 := sm.trans (same_new (o := .lst acc) nD)
          replace hacc := hacc.mono (Same.ts (same_new (o := .lst acc) nD))
          generalize upd H1 D (.lst acc) = H2 at hD s2 hacc
          refine .inr ⟨_, rfl, D, rfl, ⟨_, SqL.of hD⟩, fun D2 nD2 => ?_⟩
          have hacc' : DVs H2 acc (((((M.at h).state h).things.map fun e => e.1)).map dTh) := by rw [List.map_map]; exact hacc
          have hN : ∀ t ∈ ((M.at h).state h).things.map (fun e => e.1), Nt t := fun t ht => by
            obtain ⟨y, hy, rfl⟩ := List.mem_map.mp ht
            exact (st_thing_n hn e hy).1
          have hL2 : (((M.at h).state h).things.map fun e => e.1).length ≤ 1000 := by rw [List.length_map]; exact hL
          have ea : ansR M (.things h) = .ok (M, listS ((((M.at h).state h).things.map fun e => e.1).map thS)) := by simp only [ansR, e, if_true]; rw [List.map_map]; rfl
          generalize ((M.at h).state h).things.map (fun e => e.1) = ts at hacc' hN hL2 ea
          refine lc_map ts dTh thS (walk_list (a := D) (xs := acc)) rfl nD2 hacc' (by omega) (fun acc => SqL.of (keepL hD nD2)) (fun v => rfl) (fun x hx v H3 Q3 dv3 q3 => ⟨_, rfl, v, x, rfl, dv3, hN x hx, q3⟩) ?_
          refine ⟨D2, ts.map thS, rfl, upd_same, by rw [List.length_map]; omega, ths_ok hN, fun H4 s4 => ⟨(by show 2 ≤ sizeLine; decide), fun p np => ?_⟩⟩
          refine q _ _ (((s2.trans (same_new nD2)).trans s4).trans (same_new np)) ?_
          show DV _ _ (dDue M (.things h))
          rw [dDue_ok ea]
          exact .tup upd_same (.cons (.str _) (.cons (.str _) .nil))
end
end Fh

set_option Elab.async false
set_option linter.all false
set_option maxRecDepth 100000
set_option maxHeartbeats 4000000
namespace Fh
open PySem PySem.Spec L2 FhR FhH L2H
open Fm (Th Hs StD Wd Er HG HB HSm Sts SZ Inq Lt Ab WG ArrOk)
/-- a row that asks -/
def isQ : Row → Bool
  | .post => true | .holds _ => true | .hand _ => true | .things _ => true | .found _ => true
  | _ => false
theorem row_hand (h : Int) : ("hand " : Str) ++ numS h = rowS (.hand h) := by
  show _ = ("hand" : Str) ++ (" " : Str) ++ numS h
  rw [show ("hand" : Str) ++ (" " : Str) = ("hand " : Str) by decide +kernel]
theorem row_things (h : Int) : ("things " : Str) ++ numS h = rowS (.things h) := by
  show _ = ("things" : Str) ++ (" " : Str) ++ numS h
  rw [show ("things" : Str) ++ (" " : Str) = ("things " : Str) by decide +kernel]
theorem row_found (h : Int) : ("found " : Str) ++ numS h = rowS (.found h) := by
  show _ = ("found" : Str) ++ (" " : Str) ++ numS h
  rw [show ("found" : Str) ++ (" " : Str) = ("found " : Str) by decide +kernel]
theorem row_holds (t : Th) : ("holds " : Str) ++ thS t = rowS (.holds t) := by
  show _ = ("holds" : Str) ++ (" " : Str) ++ thS t
  rw [show ("holds" : Str) ++ (" " : Str) = ("holds " : Str) by decide +kernel]
def spLAsk (K : PySem.W.Frag) : Sp := fun vs H Q _ => ∃ (wid : Nat) (ow : Ow) (a px : Addr) (M : Wd) (ns : List Int) (k : Nat), vs = [.ref a, .ref px, .int (M.hs.length : Nat), .int (k : Nat)] ∧ WAt K wid H ow a M ∧ WG M ∧ WN M ∧ 0 < M.hs.length ∧ k ≤ 1000 ∧
  H px = some (.lst (ns.map V.int)) ∧ ns.length = 7 ∧ (∀ x ∈ ns, 0 ≤ x) ∧ ∀ H' r, Same H H' → r.ok → isQ r = true → Q (.str (rowS r)) H'
section
variable {P : Program} {w : World} {K : PySem.W.Frag} {mg : Str → Option Value} {base : Heap}
theorem scLAsk : FnScope ["_law_world", "_law_xs", "_law_many", "_law_asked", "_law_h", "_law_way", "_law_things", "_law_row"] ["_law_world", "_law_xs", "_law_many", "_law_asked"] (defScope s_l_ask) := ⟨rfl, rfl, rfl, by decide +kernel, rfl, by decide +kernel, by decide +kernel⟩
theorem ok_lask (T : Tx K mg) : Ok P w K mg base 3 d_l_ask ["_law_world", "_law_xs", "_law_many", "_law_asked"] (spLAsk K) := by
  obtain ⟨f1, F1, b1, k1⟩ := ok_wstate (P := P) (w := w) (base := base) T
  obtain ⟨f2, F2, b2, k2⟩ := ok_lthing (P := P) (w := w) (base := base) T
  refine Ok.mk T 83 rfl ⟨rfl, rfl⟩ scLAsk (fun vs H Q E h => ?_) (fun _ _ _ _ _ _ us hl => match us, hl with | [_, _, _, _], _ => rfl) (fun cdv A outer s H vs Q E hr h => ?_)
  · obtain ⟨wid, ow, a, px, M, ns, k, rfl, _⟩ := h
    rfl
  · obtain ⟨wid, ow, a, px, M, ns, k, rfl, hw, hg, hn, hpos, hk, hpx, hns, hx0, q⟩ := h
    have hr1 := hr.mono (show 1 ≤ 2 by decide)
    refine ⟨_, pss_cons (ps_set (i := 4) scLAsk.nd rfl (.inl rfl) (pe_op op_mod (pe_ix ix_list (pv 1) pe_int (fun _ _ => rfl)) (pe_op op_add (pv 2) pe_int)))
      (pss_cons (ps_set (i := 5) scLAsk.nd rfl (.inl rfl) (pe_op op_mod (pe_ix ix_list (pv 1) pe_int (fun _ _ => rfl)) pe_int))
      (pss_cons (ps_if (pt_cmpR op_eq (pv 5) pe_int (nomark _)) (pss_one (ps_ret (pe_op op_add_str pe_str (pe_callTy call_str_int rfl T.f_str PyProof.Rows.boot_str (pa_cons (pv 4) pa_nil))))) pss_nil)
      (pss_cons (ps_if (pt_cmpR op_eq (pv 5) pe_int (nomark _)) (pss_one (ps_ret (pe_op op_add_str pe_str (pe_callTy call_str_int rfl T.f_str PyProof.Rows.boot_str (pa_cons (pv 4) pa_nil))))) pss_nil)
      (pss_cons (ps_if (pt_cmpR op_eq (pv 5) pe_int (nomark _)) (pss_one (ps_ret pe_str)) pss_nil)
      (pss_cons (ps_if (pt_cmpR op_eq (pv 5) pe_int (nomark _)) (pss_one (ps_ret (pe_op op_add_str pe_str (pe_callTy call_str_int rfl T.f_str PyProof.Rows.boot_str (pa_cons (pe_op op_mod (pe_ix ix_list (pv 1) pe_int (fun _ _ => rfl)) (pe_op op_add (pv 3) pe_int)) pa_nil))))) pss_nil)
      (pss_cons (ps_set (i := 6) scLAsk.nd rfl (.inl rfl) (pe_lst (pa_cons (pe_tup (pa_cons (pv 4) (pa_cons (pe_op op_mod (pe_op op_fdiv (pe_ix ix_list (pv 1) pe_int (fun _ _ => rfl)) pe_int) pe_int) pa_nil))) pa_nil)))
      (pss_cons (ps_if (pt_cmpR op_lt (pv 4) (pv 2) (nomark _))
        (pss_one (ps_set (i := 6) scLAsk.nd rfl (.inl rfl) (pe_op op_cat (pv 6) (pe_lc (own := [("_law_row", 7)]) (g := gName 7) (tt := tYes) (te := tOp (rIxT K) (tVar 7) (tC (.int 0))) rfl scLAsk.nd
          (pi_tup (pe_ix ix_tup (pe_meth (pv 0) T.c_World T.m_World_state F1 hr b1 .nil (passC (takes_of rfl rfl rfl rfl)) (pa_cons (pv 4) pa_nil)) pe_int (fun _ _ => rfl)))
          (blkOk_by (own := [("_law_row", 7)]) (N := ["_law_world", "_law_xs", "_law_many", "_law_asked", "_law_h", "_law_way", "_law_things", "_law_row"]) (sc := defScope s_l_ask) (by decide +kernel))
          (fun _ _ _ _ _ => pg_name (i := 7) scLAsk.nd rfl (.inl rfl)) (fun _ _ _ _ _ => pts_nil) (fun _ _ _ _ _ => pe_ix ix_tup (pv 7) pe_int (fun _ _ => rfl)))))) pss_nil)
      (pss_one (ps_ret (pe_op op_add_str pe_str (pe_call F2 hr1 rfl T.g_law_thing k2 b2 .nil passL (pa_cons
        (pe_ix ix_list (pv 6) (pe_op op_mod (pe_op op_fdiv (pe_ix ix_list (pv 1) pe_int (fun _ _ => rfl)) pe_int) (pe_callB call_len_seq rfl T.f_len boot_len (pa_cons (pv 6) pa_nil))) (fun _ _ => rfl)) pa_nil)))))))))))), ?_⟩
    obtain ⟨x0, hw0⟩ := id hw
    have hn4 := hg.hn
    obtain ⟨c5, a5, p5⟩ := cell_at hns hx0 5 (by decide)
    obtain ⟨c6, a6, p6⟩ := cell_at hns hx0 6 (by decide)
    refine ⟨_, rfl, px, _, _, _, rfl, rfl, SqL.of hpx, a5, _, rfl, _, _, rfl, rfl, _, _, rfl, rfl, (by show (0 : Int) < _; omega), ?_⟩
    have hh1 := Int.emod_nonneg c5 (show ((M.hs.length : Nat) : Int) + 1 ≠ 0 by omega)
    have hh2 := Int.emod_lt_of_pos c5 (show (0 : Int) < ((M.hs.length : Nat) : Int) + 1 by omega)
    show tSeq _ _ _ ([some (.ref a), some (.ref px), some (.int (M.hs.length : Nat)), some (.int (k : Nat)), some (.int (c5 % ((M.hs.length : Nat) + 1)))] ++ [none, none, none]) H
    generalize c5 % ((M.hs.length : Nat) + 1) = h at hh1 hh2
    have nmh : Nm h := ⟨hh1, by omega⟩
    have l1 := (numS_len nmh).2
    refine ⟨_, rfl, px, _, _, _, rfl, rfl, SqL.of hpx, a6, _, _, rfl, rfl, (by show (0 : Int) < 6; decide), ?_⟩
    show tSeq _ _ _ ([some (.ref a), some (.ref px), some (.int (M.hs.length : Nat)), some (.int (k : Nat)), some (.int h), some (.int (c6 % 6))] ++ [none, none]) H
    generalize c6 % 6 = way
    refine ⟨_, rfl, rfl, _, rfl, ?_⟩
    rw [decV]
    by_cases b0 : way = 0
    · refine iteT' (decide_eq_true b0) ⟨_, rfl, h, rfl, numS_log nmh, _, _, rfl, rfl, ?_, ?_⟩
      · show 5 + (numS h).length ≤ sizeLine; rw [sizeLine_eq]; omega
      · have := q H (.hand h) (Same.refl _) (okP1 nmh) rfl
        rw [← row_hand] at this
        exact this
    refine iteF' (decide_eq_false b0) ⟨_, rfl, rfl, _, rfl, ?_⟩
    rw [decV]
    by_cases b1 : way = 1
    · refine iteT' (decide_eq_true b1) ⟨_, rfl, h, rfl, numS_log nmh, _, _, rfl, rfl, ?_, ?_⟩
      · show 7 + (numS h).length ≤ sizeLine; rw [sizeLine_eq]; omega
      · have := q H (.things h) (Same.refl _) (okP1 nmh) rfl
        rw [← row_things] at this
        exact this
    refine iteF' (decide_eq_false b1) ⟨_, rfl, rfl, _, rfl, ?_⟩
    rw [decV]
    by_cases b2 : way = 2
    · exact iteT' (decide_eq_true b2) (q H .post (Same.refl _) (fun p hp => nomatch hp) rfl)
    refine iteF' (decide_eq_false b2) ⟨_, rfl, rfl, _, rfl, ?_⟩
    rw [decV]
    by_cases b3 : way = 3
    · have h1 := Int.emod_nonneg c5 (show ((k : Nat) : Int) + 2 ≠ 0 by omega)
      have h2 := Int.emod_lt_of_pos c5 (show (0 : Int) < ((k : Nat) : Int) + 2 by omega)
      have nmn : Nm (c5 % ((k : Nat) + 2)) := ⟨h1, by omega⟩
      have l2 := (numS_len nmn).2
      refine iteT' (decide_eq_true b3) ⟨_, rfl, px, _, _, _, rfl, rfl, SqL.of hpx, a5, _, rfl, _, _, rfl, rfl, _, _, rfl, rfl, (by show (0 : Int) < _; omega), _, rfl, numS_log nmn, _, _, rfl, rfl, ?_, ?_⟩
      · show 6 + (numS (c5 % ((k : Nat) + 2))).length ≤ sizeLine; rw [sizeLine_eq]; omega
      · have := q H (.found (c5 % ((k : Nat) + 2))) (Same.refl _) (okP1 nmn) rfl
        rw [← row_found] at this
        exact this
    refine iteF' (decide_eq_false b3) ⟨_, rfl, _, rfl, px, _, _, _, rfl, rfl, SqL.of hpx, a5, _, _, rfl, rfl, ⟨by decide, by decide⟩, _, _, rfl, rfl, (by show (0 : Int) < 9; decide), (by show 2 ≤ sizeLine; decide), fun p np => ?_⟩
    refine ⟨(by show 1 ≤ sizeLine; decide), fun D nD => ?_⟩
    have h3 := Int.emod_nonneg (c5 / 7) (show (9 : Int) ≠ 0 by decide)
    have h4 := Int.emod_lt_of_pos (c5 / 7) (show (0 : Int) < 9 by decide)
    have s1 := (same_new (o := .tup [.int h, .int (c5 / 7 % 9)]) np).trans (same_new (o := .lst [.ref p]) nD)
    have e1 : upd (upd H p (.tup [.int h, .int (c5 / 7 % 9)])) D (.lst [.ref p]) D = some (.lst [.ref p]) := upd_same
    have d1 : DVs (upd (upd H p (.tup [.int h, .int (c5 / 7 % 9)])) D (.lst [.ref p])) [.ref p] ([(h, c5 / 7 % 9)].map dTh) := .cons (.mkTh (keepN (upd_same) nD)) .nil
    have nt1 : ∀ t ∈ [((h, c5 / 7 % 9) : Th)], Nt t := fun t ht => by rcases List.mem_singleton.mp ht with rfl; exact ⟨nmh, h3, by show c5 / 7 % 9 < _; omega⟩
    generalize upd (upd H p (.tup [.int h, .int (c5 / 7 % 9)])) D (.lst [.ref p]) = H1 at s1 e1 d1
    have fin : ∀ (H2 : Hp) (L : Addr) (ws : List V) (ts : List Th) (v7 : Option V), Same H H2 → H2 L = some (.lst ws) → DVs H2 ws (ts.map dTh) → (∀ t ∈ ts, Nt t) → 0 < ts.length →
        tRet (tOp (fun x y H Q => ∃ i j, x = .str i ∧ y = .str j ∧ i.length + j.length ≤ sizeLine ∧ Q (.str (i ++ j)) H) (tC (.str "holds ")) (tCall spThText [] E0 (tCons (tOp (rIxL K) (tVar 6) (tOp (rI (fun _ j => 0 < j) fun i j => .int (i % j)) (tOp (rI CDiv fun i j => .int (i / j)) (tOp (rIxL K) (tVar 1) (tC (.int 5))) (tC (.int 70)))
          (tCB (fun xs H Q => ∃ p ws, xs = [.ref p] ∧ (SqL K H p ws ∨ SqT K H p ws) ∧ Q (.int (ws.length : Nat)) H) (tCons (tVar 6) tNil)))) tNil))) { nx := fun _ H' => Q .non H', rt := Q } [some (.ref a), some (.ref px), some (.int (M.hs.length : Nat)), some (.int (k : Nat)), some (.int h), some (.int way), some (.ref L), v7] H2 := by
      intro H2 L ws ts v7 sm hL dws nts hl
      have hwl : ws.length = ts.length := by rw [dws.length]; exact List.length_map ..
      have g1 := Int.emod_nonneg (c5 / 70) (show ((ws.length : Nat) : Int) ≠ 0 by omega)
      have g2 := Int.emod_lt_of_pos (c5 / 70) (show (0 : Int) < (ws.length : Nat) by omega)
      obtain ⟨j, hj⟩ : ∃ j : Nat, c5 / 70 % (ws.length : Nat) = (j : Int) := ⟨(c5 / 70 % (ws.length : Nat)).toNat, by omega⟩
      have hjl : j < ws.length := by omega
      have hw := List.getElem?_eq_getElem hjl
      obtain ⟨d, hd, hdv⟩ := dws.get hw
      obtain ⟨t, ht, rfl⟩ := map_at hd
      have ntt := nts t (List.mem_of_getElem? ht)
      have hat : atI ws (c5 / 70 % (ws.length : Nat)) = some ws[j] := by rw [hj]; exact atI_nat hw
      refine ⟨_, rfl, _, rfl, px, _, _, _, rfl, rfl, SqL.of (sm _ _ hpx), a5, _, _, rfl, rfl, ⟨by decide, by decide⟩, _, rfl, L, ws, rfl, .inl (SqL.of hL), _, _, rfl, rfl, (by show (0 : Int) < _; omega), L, ws, _, _, rfl, rfl, SqL.of hL, hat, _, t, rfl, hdv, ntt, _, _, rfl, rfl, ?_, ?_⟩
      · show 6 + (thS t).length ≤ sizeLine
        have := thS_len ntt
        rw [sizeLine_eq]; omega
      · have := q H2 (.holds t) sm (okP1 ntt) rfl
        rw [← row_holds] at this
        exact this
    refine ⟨_, rfl, _, rfl, _, _, rfl, rfl, _, rfl, ?_⟩
    by_cases b4 : h < (M.hs.length : Nat)
    · have e : M.is h = true := Fm.is_iff.mpr ⟨hh1, b4⟩
      refine iteT' (decide_eq_true b4) ⟨_, rfl, _, rfl, a, _, _, rfl, s1 _ _ hw0.ob, wf_state, _, rfl, wid, ow, a, M, h, rfl, hw.same s1, hg, fun _ v H2 sm dst => ?_, fun z => by rw [e] at z; cases z⟩
      obtain ⟨ps, xs, qq, ws, rfl, hps, hat, hqq, dws⟩ := dst_things dst
      have hL := things_len (i := h) (hg.hs _ _ (Fm.at_of e)).2.1
      have hwl : ws.length = ((M.at h).state h).things.length := by rw [dws.length]; exact List.length_map ..
      refine ⟨_, _, _, _, rfl, rfl, SqT.of hps, hat, qq, rfl, ⟨_, SqT.of hqq⟩, fun D2 nD2 => ?_⟩
      refine lc_it (walk_tup (a := qq) (xs := ws)) (fun i H' => ∃ acc, H' = upd H2 D2 (.lst acc) ∧ DVs H2 acc ((((M.at h).state h).things.take i).map fun e => dTh e.1)) ⟨[], rfl, .nil⟩
        (fun i H' _ z => by obtain ⟨_, rfl, _⟩ := z; exact SqT.of (keepN hqq nD2)) ?_ ?_
      · rintro i v H7 H6 hi ⟨acc, rfl, hacc⟩ ⟨rfl, hv⟩
        obtain ⟨dd, hd1, hdv⟩ := dws.get hv
        obtain ⟨y, hy, rfl⟩ := map_at hd1
        obtain ⟨bb, c2, vh, rfl, hb, hc2, dvh⟩ := dEntE hdv
        have eti := take_succ_at hy
        refine ⟨rfl, ?_⟩
        show tOp (rIxT K) (tVar 7) (tC (.int 0)) _ _ _
        refine ⟨_, rfl, _, _, _, _, rfl, rfl, SqT.of (keepN (o := .lst acc) hb nD2), atI_nat (j := 0) rfl, acc, upd_same, ?_, acc ++ [.ref c2], ?_, ?_⟩
        · rw [hacc.length, List.length_map, sizeLine_eq]
          have h2 := List.length_take_le' i ((M.at h).state h).things
          omega
        · rw [upd_upd]
        · rw [eti, List.map_append]
          exact hacc.snoc (.mkTh hc2)
      · rintro H6 ⟨acc, rfl, hacc⟩
        rw [hwl, List.take_length] at hacc
        have hD : upd H2 D2 (.lst acc) D2 = some (.lst acc) := upd_same
        have hacl : acc.length = ((M.at h).state h).things.length := by rw [hacc.length, List.length_map]
        have s2 := sm.trans (same_new (o := .lst acc) nD2)
        replace hacc := hacc.mono (Same.ts (same_new (o := .lst acc) nD2))
        generalize upd H2 D2 (.lst acc) = H3 at hD s2 hacc
        refine ⟨D, D2, _, _, rfl, rfl, s2 _ _ e1, hD, ?_, fun L nL => ?_⟩
        · rw [hacl, sizeLine_eq]
          show 1 + _ ≤ _
          omega
        · have t3 := Same.ts (same_new (o := .lst ([.ref p] ++ acc)) nL)
          refine fin _ L ([.ref p] ++ acc) ([(h, c5 / 7 % 9)] ++ ((M.at h).state h).things.map fun e => e.1) _ ((s1.trans s2).trans (same_new nL)) upd_same ?_ (fun t ht => ?_) (by simp)
          · rw [List.map_append, List.map_map]
            exact .cons ((((d1.mono (Same.ts s2)).mono t3)).get (i := 0) rfl |> fun ⟨_, z, dv⟩ => by cases z; exact dv) (hacc.mono t3)
          · rcases List.mem_append.mp ht with ht | ht
            · exact nt1 t ht
            · obtain ⟨y, hy, rfl⟩ := List.mem_map.mp ht
              exact (st_thing_n hn e hy).1
    · exact iteF' (decide_eq_false b4) (fin H1 D _ _ _ s1 e1 d1 nt1 (by simp))
end
end Fh

set_option Elab.async false
set_option linter.all false
set_option maxRecDepth 100000
set_option maxHeartbeats 4000000
namespace Fh
open PySem PySem.Spec L2 FhR FhH L2H
open Fm (Th Hs StD Wd Er HG HB HSm Sts SZ Inq Lt Ab WG ArrOk)
abbrev rAddS : R2 := fun x y H Q => ∃ i j, x = .str i ∧ y = .str j ∧ i.length + j.length ≤ sizeLine ∧ Q (.str (i ++ j)) H
abbrev teLt : TE := tOp rAddS (tOp rAddS (tOp rAddS (tOp rAddS (tOp rAddS (tOp rAddS (tCB rStr (tCons (tVar 12) tNil)) (tC (.str ":"))) (tVar 13)) (tC (.str ":"))) (tCB rStr (tCons (tVar 14) tNil))) (tC (.str ":"))) (tCB rStr (tCons (tVar 15) tNil))
def spLDue (K : PySem.W.Frag) : Sp := fun vs H Q _ => ∃ (wid : Nat) (ow : Ow) (a : Addr) (M : Wd) (r : Row), vs = [.ref a, .str (rowS r), .int (M.hs.length : Nat), .int (M.asked.length : Nat)] ∧ WAt K wid H ow a M ∧ WG M ∧ WN M ∧ r.ok ∧ isQ r = true ∧
  ∀ H' v, Same H H' → DV H' v (dDue M r) → Q v H'
theorem teLt_run {σ : L2.St} {H : Hp} {Q : VK} {e : Int × Lt} (g1 : σ[12]? = some (some (.int e.1))) (g2 : σ[13]? = some (some (.str (kindS e.2.ab)))) (g3 : σ[14]? = some (some (.int e.2.sender))) (g4 : σ[15]? = some (some (.int e.2.goal)))
    (h1 : Nm e.1) (h2 : Nm e.2.sender) (h3 : Nm e.2.goal) (q : Q (.str (ltS e)) H) : teLt σ H Q := by
  have c1 : (":" : Str).length = 1 := rfl
  have a1 := (numS_len h1).2
  have a2 := (numS_len h2).2
  have a3 := (numS_len h3).2
  have a4 := kindS_len e.2.ab
  refine ⟨_, g1, e.1, rfl, numS_log h1, _, _, rfl, rfl, ?_, _, g2, _, _, rfl, rfl, ?_, _, _, rfl, rfl, ?_, _, g3, e.2.sender, rfl, numS_log h2, _, _, rfl, rfl, ?_, _, _, rfl, rfl, ?_, _, g4, e.2.goal, rfl, numS_log h3, _, _, rfl, rfl, ?_, q⟩
  all_goals
    first
    | (show (numS e.1).length + (":" : Str).length ≤ sizeLine; rw [sizeLine_eq]; omega)
    | (show (numS e.1 ++ (":" : Str)).length + (kindS e.2.ab).length ≤ sizeLine; rw [sizeLine_eq, len_app]; omega)
    | (show (numS e.1 ++ (":" : Str) ++ kindS e.2.ab).length + (":" : Str).length ≤ sizeLine; rw [sizeLine_eq, len_app, len_app]; omega)
    | (show (numS e.1 ++ (":" : Str) ++ kindS e.2.ab ++ (":" : Str)).length + (numS e.2.sender).length ≤ sizeLine; rw [sizeLine_eq, len_app, len_app, len_app]; omega)
    | (show (numS e.1 ++ (":" : Str) ++ kindS e.2.ab ++ (":" : Str) ++ numS e.2.sender).length + (":" : Str).length ≤ sizeLine; rw [sizeLine_eq, len_app, len_app, len_app, len_app]; omega)
    | (show (numS e.1 ++ (":" : Str) ++ kindS e.2.ab ++ (":" : Str) ++ numS e.2.sender ++ (":" : Str)).length + (numS e.2.goal).length ≤ sizeLine; rw [sizeLine_eq, len_app, len_app, len_app, len_app, len_app]; omega)
theorem part_row {r : Row} {p : Pc} (h : r.ok) (e : rowP r = [p]) : Txt.partition (rowS r) (" " : Str) = (rowW r, (" " : Str), pcS p) := by
  unfold rowS
  rw [e]
  exact partition_row1 (rowW_free r)
section
variable {P : Program} {w : World} {K : PySem.W.Frag} {mg : Str → Option Value} {base : Heap}
theorem scLDue : FnScope ["_law_world", "_law_row", "_law_many", "_law_asked", "_law_word", "_law_blank", "_law_rest", "_law_rows", "_law_texts", "_law_house", "_law_dot", "_law_number", "_law_n", "_law_kind", "_law_one", "_law_other", "_law_about", "_law_thing_here"] ["_law_world", "_law_row", "_law_many", "_law_asked"] (defScope s_l_due) := ⟨rfl, rfl, rfl, by decide +kernel, rfl, by decide +kernel, by decide +kernel⟩
theorem ok_ldue (T : Tx K mg) : Ok P w K mg base 4 d_l_due ["_law_world", "_law_row", "_law_many", "_law_asked"] (spLDue K) := by
  obtain ⟨f1, F1, b1, k1⟩ := ok_wletters (P := P) (w := w) (base := base) T
  obtain ⟨f2, F2, b2, k2⟩ := ok_lthing (P := P) (w := w) (base := base) T
  obtain ⟨f3, F3, b3, k3⟩ := ok_llisted (P := P) (w := w) (base := base) T
  obtain ⟨f4, F4, b4, k4⟩ := ok_lholds (P := P) (w := w) (base := base) T
  obtain ⟨f5, F5, b5, k5⟩ := ok_winquiry (P := P) (w := w) (base := base) T
  obtain ⟨f6, F6, b6, k6⟩ := ok_lthings (P := P) (w := w) (base := base) T
  refine Ok.mk T 84 rfl ⟨rfl, rfl⟩ scLDue (fun vs H Q E h => ?_) (fun _ _ _ _ _ _ us hl => match us, hl with | [_, _, _, _], _ => rfl) (fun cdv A outer s H vs Q E hr h => ?_)
  · obtain ⟨wid, ow, a, M, r, rfl, _⟩ := h
    rfl
  · obtain ⟨wid, ow, a, M, r, rfl, hw, hg, hn, hok, hq, q⟩ := h
    have hr1 := hr.mono (show 1 ≤ 3 by decide)
    have hr2 := hr.mono (show 2 ≤ 3 by decide)
    refine ⟨_, pss_cons (ps_asg (pe_partition (pv 1) pe_str) (pg_tup rfl (pgs_cons (pg_name (i := 4) scLDue.nd rfl (.inl rfl)) (pgs_cons (pg_name (i := 5) scLDue.nd rfl (.inl rfl)) (pgs_cons (pg_name (i := 6) scLDue.nd rfl (.inl rfl)) pgs_nil)))))
      (pss_cons (ps_if (pt_cmpR op_eq (pv 4) pe_str (nomark _))
        (pss_cons (ps_set (i := 7) scLDue.nd rfl (.inl rfl) (pe_meth0 (pv 0) T.c_World T.m_World_letters F1 hr2 b1 .nil passL))
        (pss_cons (ps_setLc (i := 8) (own := [("_law_n", 12), ("_law_kind", 13), ("_law_one", 14), ("_law_other", 15), ("_law_about", 16)]) (g := gTup K 5 (gCons (gName 12) (gCons (gName 13) (gCons (gName 14) (gCons (gName 15) (gCons (gName 16) gNil)))))) (tt := tYes)
            (te := teLt) rfl scLDue.nd rfl rfl (sw_true rfl rfl rfl rfl) (pi_list (pv 7))
          (blkOk_by (own := [("_law_n", 12), ("_law_kind", 13), ("_law_one", 14), ("_law_other", 15), ("_law_about", 16)]) (N := ["_law_world", "_law_row", "_law_many", "_law_asked", "_law_word", "_law_blank", "_law_rest", "_law_rows", "_law_texts", "_law_house", "_law_dot", "_law_number", "_law_n", "_law_kind", "_law_one", "_law_other", "_law_about", "_law_thing_here"]) (sc := defScope s_l_due) (by decide +kernel))
          (fun _ _ _ _ _ => pg_tup rfl (pgs_cons (pg_name (i := 12) scLDue.nd rfl (.inl rfl)) (pgs_cons (pg_name (i := 13) scLDue.nd rfl (.inl rfl)) (pgs_cons (pg_name (i := 14) scLDue.nd rfl (.inl rfl)) (pgs_cons (pg_name (i := 15) scLDue.nd rfl (.inl rfl)) (pgs_cons (pg_name (i := 16) scLDue.nd rfl (.inl rfl)) pgs_nil)))))) (fun _ _ _ _ _ => pts_nil)
          (fun _ _ _ _ _ => pe_op op_add_str (pe_op op_add_str (pe_op op_add_str (pe_op op_add_str (pe_op op_add_str (pe_op op_add_str (pe_callTy call_str_int rfl T.f_str PyProof.Rows.boot_str (pa_cons (pv 12) pa_nil)) pe_str) (pv 13)) pe_str) (pe_callTy call_str_int rfl T.f_str PyProof.Rows.boot_str (pa_cons (pv 14) pa_nil))) pe_str) (pe_callTy call_str_int rfl T.f_str PyProof.Rows.boot_str (pa_cons (pv 15) pa_nil))))
        (pss_one (ps_ret (pe_tup (pa_cons pe_str (pa_cons (pe_call F3 hr1 rfl T.g_law_listed k3 b3 .nil passL (pa_cons (pv 8) pa_nil)) pa_nil))))))) pss_nil)
      (pss_cons (ps_if (pt_cmpR op_eq (pv 4) pe_str (nomark _))
        (pss_cons (ps_asg (pe_partition (pv 6) pe_str) (pg_tup rfl (pgs_cons (pg_name (i := 9) scLDue.nd rfl (.inl rfl)) (pgs_cons (pg_name (i := 10) scLDue.nd rfl (.inl rfl)) (pgs_cons (pg_name (i := 11) scLDue.nd rfl (.inl rfl)) pgs_nil)))))
        (pss_one (ps_ret (pe_call F4 hr rfl T.g_law_holds_of k4 b4 .nil passL (pa_cons (pv 0) (pa_cons (pe_tup (pa_cons (pe_callTy call_int_str rfl T.f_int PyProof.Rows.boot_int (pa_cons (pv 9) pa_nil)) (pa_cons (pe_callTy call_int_str rfl T.f_int PyProof.Rows.boot_int (pa_cons (pv 11) pa_nil)) pa_nil))) (pa_cons (pv 2) pa_nil))))))) pss_nil)
      (pss_cons (ps_if (pt_cmpR op_eq (pv 4) pe_str (nomark _))
        (pss_cons (ps_if (pt_not (pt_chain op_le op_le pe_int (pe_callTy call_int_str rfl T.f_int PyProof.Rows.boot_int (pa_cons (pv 6) pa_nil)) (pv 3))) (pss_one (ps_ret (pe_tup (pa_cons pe_str (pa_cons pe_int pa_nil))))) pss_nil)
        (pss_one (ps_ret (pe_tup (pa_cons pe_str (pa_cons (pe_call F3 hr1 rfl T.g_law_listed k3 b3 .nil passL (pa_cons (pe_lc (own := [("_law_thing_here", 17)]) (g := gName 17) (tt := tYes) (te := tCall spThText [] E0 (tCons (tVar 17) tNil)) rfl scLDue.nd
            (pi_tup (pe_ix ix_tup (pe_meth (pv 0) T.c_World T.m_World_inquiry F5 hr1 b5 .nil (passC (takes_of rfl rfl rfl rfl)) (pa_cons (pe_callTy call_int_str rfl T.f_int PyProof.Rows.boot_int (pa_cons (pv 6) pa_nil)) pa_nil)) pe_int (fun _ _ => rfl)))
            (blkOk_by (own := [("_law_thing_here", 17)]) (N := ["_law_world", "_law_row", "_law_many", "_law_asked", "_law_word", "_law_blank", "_law_rest", "_law_rows", "_law_texts", "_law_house", "_law_dot", "_law_number", "_law_n", "_law_kind", "_law_one", "_law_other", "_law_about", "_law_thing_here"]) (sc := defScope s_l_due) (by decide +kernel))
            (fun _ _ _ _ _ => pg_name (i := 17) scLDue.nd rfl (.inl rfl)) (fun _ _ _ _ _ => pts_nil) (fun _ _ _ _ _ => pe_call F2 hr1 rfl T.g_law_thing k2 b2 .nil passL (pa_cons (pv 17) pa_nil))) pa_nil)) pa_nil)))))) pss_nil)
      (pss_one (ps_ret (pe_call F6 hr rfl T.g_law_things_of k6 b6 .nil passL (pa_cons (pv 0) (pa_cons (pe_callTy call_int_str rfl T.f_int PyProof.Rows.boot_int (pa_cons (pv 6) pa_nil)) (pa_cons (pe_callTy call_int1 rfl T.f_int PyProof.Rows.boot_int (pa_cons (pe_cmpR op_eq (pv 4) pe_str (nomark _)) pa_nil)) (pa_cons (pv 2) pa_nil)))))))))), ?_⟩
    obtain ⟨x0, hw0⟩ := id hw
    refine ⟨_, rfl, ⟨_, rfl⟩, _, _, rfl, rfl, by decide +kernel, by have := rowS_len hok; rw [sizeLine_eq]; omega, fun p np => ?_⟩
    have c1 : (":" : Str).length = 1 := rfl
    cases r with
    | post =>
      rw [show Txt.partition (rowS .post) (" " : Str) = (("post" : Str), Str.empty, Str.empty) from partition_row0 (rowW_free .post)]
      have s1 := same_new (o := .tup [.str ("post" : Str), .str Str.empty, .str Str.empty]) np
      have ep : upd H p (.tup [.str ("post" : Str), .str Str.empty, .str Str.empty]) p = some (.tup [.str ("post" : Str), .str Str.empty, .str Str.empty]) := upd_same
      refine ⟨p, _, rfl, SqT.of ep, rfl, _, _, rfl, _, _, rfl, _, _, rfl, rfl, ?_⟩
      generalize upd H p (.tup [.str ("post" : Str), .str Str.empty, .str Str.empty]) = H1 at s1 ep
      refine ⟨_, rfl, rfl, _, rfl, iteT' (by kernel_rfl) ?_⟩
      refine ⟨_, rfl, a, _, _, rfl, s1 _ _ hw0.ob, wf_letters, wid, ow, a, M, rfl, hw.same s1, hg, fun H2 r2 ws2 sm2 nr2 er2 dws2 => ?_⟩
      refine ⟨_, rfl, r2, rfl, ⟨_, SqL.of er2⟩, fun D nD => ?_⟩
      have hN := letters_n hn
      have hL := Nat.le_trans (letters_len (M := M)) hg.ly
      have hwl : ws2.length = M.letters.length := by rw [dws2.length]; exact List.length_map ..
      refine lc_it (walk_list (a := r2) (xs := ws2)) (fun i H' => H' = upd H2 D (.lst (((M.letters.take i).map ltS).map V.str))) rfl
        (fun i H' _ z => by rw [z]; exact SqL.of (keepL er2 nD)) ?_ ?_
      · rintro i v H7 H6 hi rfl ⟨rfl, hv⟩
        obtain ⟨dd, hd1, hdv⟩ := dws2.get hv
        obtain ⟨e, he, rfl⟩ := map_at hd1
        obtain ⟨b, va, rfl, hb, _⟩ := dLtE hdv
        have eti := take_succ_at he
        obtain ⟨h1, h2, h3⟩ := hN e (List.mem_of_getElem? he)
        refine ⟨b, _, rfl, SqT.of (keepN hb nD), rfl, _, _, rfl, _, _, rfl, _, _, rfl, _, _, rfl, _, _, rfl, rfl, by kernel_rfl, ?_⟩
        show teLt _ _ _
        refine teLt_run (e := e) (by kernel_rfl) (by kernel_rfl) (by kernel_rfl) (by kernel_rfl) h1 h2 h3 ⟨_, upd_same, ?_, ?_⟩
        · rw [List.length_map, List.length_map, sizeLine_eq]
          have := List.length_take_le' i M.letters
          omega
        · rw [upd_upd, eti, List.map_append, List.map_append]
          rfl
      · rintro H6 rfl
        rw [hwl, List.take_length]
        refine ⟨_, rfl, D, M.letters.map ltS, rfl, upd_same, by rw [List.length_map]; omega, fun x hx => ?_, fun H4 s4 => ⟨(by show 2 ≤ sizeLine; decide), fun p2 n2 => ?_⟩⟩
        · obtain ⟨e, he, rfl⟩ := List.mem_map.mp hx
          exact ⟨Nat.le_trans (ltS_len (hN e he).1 (hN e he).2.1 (hN e he).2.2) (by decide), okS_lt (hN e he).1 (hN e he).2.1 (hN e he).2.2⟩
        · refine q _ _ ((((s1.trans sm2).trans (same_new nD)).trans s4).trans (same_new n2)) ?_
          rw [dDue_ok (show ansR M .post = .ok (M, listS (M.letters.map ltS)) from rfl)]
          exact .tup upd_same (.cons (.str _) (.cons (.str _) .nil))
    | holds t =>
      have nt : Nt t := hok (.t t) (List.mem_singleton.mpr rfl)
      rw [part_row hok rfl]
      have s1 := same_new (o := .tup [.str ("holds" : Str), .str (" " : Str), .str (thS t)]) np
      have ep : upd H p (.tup [.str ("holds" : Str), .str (" " : Str), .str (thS t)]) p = some (.tup [.str ("holds" : Str), .str (" " : Str), .str (thS t)]) := upd_same
      refine ⟨p, _, rfl, SqT.of ep, rfl, _, _, rfl, _, _, rfl, _, _, rfl, rfl, ?_⟩
      change tSeq _ _ _ _ (upd H p (.tup [.str ("holds" : Str), .str (" " : Str), .str (thS t)]))
      generalize upd H p (.tup [.str ("holds" : Str), .str (" " : Str), .str (thS t)]) = H1 at s1 ep
      refine ⟨_, rfl, rfl, _, rfl, iteF' (by kernel_rfl) ⟨_, rfl, rfl, _, rfl, iteT' (by kernel_rfl) ?_⟩⟩
      refine ⟨_, rfl, ⟨_, rfl⟩, _, _, rfl, rfl, by decide +kernel, by have := thS_len nt; rw [sizeLine_eq]; show (thS t).length ≤ _; omega, fun p2 n2 => ?_⟩
      have ep2 : Txt.partition (thS t) ("." : Str) = (numS t.1, ("." : Str), numS t.2) := thS_part nt
      show gTup _ _ _ _ _ (upd H1 p2 (.tup [.str (Txt.partition (thS t) ("." : Str)).1, .str (Txt.partition (thS t) ("." : Str)).2.1, .str (Txt.partition (thS t) ("." : Str)).2.2])) _
      rw [ep2]
      have l1 := (numS_len nt.1).2
      have l2 := (numS_len nt.2).2
      have s2 := s1.trans (same_new (o := .tup [.str (numS t.1), .str ("." : Str), .str (numS t.2)]) n2)
      refine ⟨p2, _, rfl, SqT.of upd_same, rfl, _, _, rfl, _, _, rfl, _, _, rfl, rfl, ?_⟩
      refine ⟨_, rfl, _, rfl, _, t.1, rfl, numS_read nt.1, by show (numS t.1).length ≤ 640; omega, _, rfl, _, t.2, rfl, numS_read nt.2, by show (numS t.2).length ≤ 640; omega, (by show 2 ≤ sizeLine; decide), fun p3 n3 => ?_⟩
      refine ⟨_, rfl, wid, ow, a, M, .ref p3, t, rfl, .mkTh upd_same, hw.same (s2.trans (same_new n3)), hg, hn, nt.1.1, fun H' v s3 dv => q H' v ((s2.trans (same_new n3)).trans s3) dv⟩
    | found n =>
      have nn : Nm n := hok (.n n) (List.mem_singleton.mpr rfl)
      have l1 := (numS_len nn).2
      rw [part_row hok rfl]
      have s1 := same_new (o := .tup [.str ("found" : Str), .str (" " : Str), .str (numS n)]) np
      have ep : upd H p (.tup [.str ("found" : Str), .str (" " : Str), .str (numS n)]) p = some (.tup [.str ("found" : Str), .str (" " : Str), .str (numS n)]) := upd_same
      refine ⟨p, _, rfl, SqT.of ep, rfl, _, _, rfl, _, _, rfl, _, _, rfl, rfl, ?_⟩
      change tSeq _ _ _ _ (upd H p (.tup [.str ("found" : Str), .str (" " : Str), .str (numS n)]))
      generalize upd H p (.tup [.str ("found" : Str), .str (" " : Str), .str (numS n)]) = H1 at s1 ep
      refine ⟨_, rfl, rfl, _, rfl, iteF' (by kernel_rfl) ⟨_, rfl, rfl, _, rfl, iteF' (by kernel_rfl) ⟨_, rfl, rfl, _, rfl, iteT' (by kernel_rfl) ?_⟩⟩⟩
      refine ⟨_, rfl, _, n, rfl, numS_read nn, by show (numS n).length ≤ 640; omega, _, _, rfl, rfl, _, rfl, ?_⟩
      have no : ¬ (1 ≤ n ∧ n ≤ (M.asked.length : Int)) → ∀ p2, H1 p2 = none → Q (.ref p2) (upd H1 p2 (.tup [.str "refused", .int 6])) := fun hin p2 n2 => by
        refine q _ _ (s1.trans (same_new n2)) ?_
        rw [dDue_er (show ansR M (.found n) = .error .noInquiry by simp only [ansR, Wd.inquiry, if_neg hin])]
        exact .tup upd_same (.cons (.str _) (.cons (.int _) .nil))
      by_cases g1 : 1 ≤ n
      · rw [decide_eq_true g1]
        refine iteT ⟨_, rfl, _, _, rfl, rfl, _, rfl, ?_⟩
        by_cases g2 : n ≤ (M.asked.length : Nat)
        · rw [decide_eq_true g2]
          have hin : 1 ≤ n ∧ n ≤ (M.asked.length : Int) := ⟨g1, g2⟩
          have hN : ∀ t ∈ (Fm.dget M.done n).getD [], Nt t := by
            cases ed : Fm.dget M.done n with
            | none => intro t ht; cases ht
            | some ts => exact (hn.dn _ (Fm.dget_mem ed)).2
          have hL : ((Fm.dget M.done n).getD []).length ≤ 20000 := by
            cases ed : Fm.dget M.done n with
            | none => exact Nat.zero_le _
            | some ts => exact (hn.dn _ (Fm.dget_mem ed)).1
          refine iteF ⟨_, rfl, a, _, _, rfl, s1 _ _ hw0.ob, wf_inquiry, _, rfl, _, n, rfl, numS_read nn, by show (numS n).length ≤ 640; omega, wid, ow, a, M, n, rfl, hw.same s1, hg, fun _ v H2 sm2 dst => ?_, fun z => absurd hin z⟩
          obtain ⟨ps, wsq, rfl, hps, dq⟩ := DV.tupE dst
          obtain ⟨vb, wsq, rfl, _, dq⟩ := dq.consE
          obtain ⟨vt, wsq, rfl, dvt, dq⟩ := dq.consE
          cases dq.nilE
          obtain ⟨qq, ws, rfl, hqq, dws⟩ := DV.tupE dvt
          refine ⟨_, _, _, _, rfl, rfl, SqT.of hps, atI_nat (j := 1) rfl, qq, rfl, ⟨_, SqT.of hqq⟩, fun D nD => ?_⟩
          refine lc_map ((Fm.dget M.done n).getD []) dTh thS (walk_tup (a := qq) (xs := ws)) rfl nD dws (by omega) (fun acc => SqT.of (keepN hqq nD)) (fun v => rfl) (fun x hx v H3 Q3 dv3 q3 => ⟨_, rfl, v, x, rfl, dv3, hN x hx, q3⟩) ?_
          refine ⟨D, ((Fm.dget M.done n).getD []).map thS, rfl, upd_same, by rw [List.length_map]; omega, ths_ok hN, fun H4 s4 => ⟨(by show 2 ≤ sizeLine; decide), fun p2 n2 => ?_⟩⟩
          refine q _ _ ((((s1.trans sm2).trans (same_new nD)).trans s4).trans (same_new n2)) ?_
          rw [dDue_ok (show ansR M (.found n) = .ok (M, listS (((Fm.dget M.done n).getD []).map thS)) by simp only [ansR, Wd.inquiry, if_pos hin])]
          exact .tup upd_same (.cons (.str _) (.cons (.str _) .nil))
        · rw [decide_eq_false g2]
          exact iteT ⟨(by show 2 ≤ sizeLine; decide), fun p2 n2 => no (fun z => g2 z.2) p2 n2⟩
      · rw [decide_eq_false g1]
        exact iteF ⟨_, rfl, iteT ⟨(by show 2 ≤ sizeLine; decide), fun p2 n2 => no (fun z => g1 z.1) p2 n2⟩⟩
    | hand h =>
      have nn : Nm h := hok (.n h) (List.mem_singleton.mpr rfl)
      have l1 := (numS_len nn).2
      rw [part_row hok rfl]
      have s1 := same_new (o := .tup [.str ("hand" : Str), .str (" " : Str), .str (numS h)]) np
      have ep : upd H p (.tup [.str ("hand" : Str), .str (" " : Str), .str (numS h)]) p = some (.tup [.str ("hand" : Str), .str (" " : Str), .str (numS h)]) := upd_same
      refine ⟨p, _, rfl, SqT.of ep, rfl, _, _, rfl, _, _, rfl, _, _, rfl, rfl, ?_⟩
      change tSeq _ _ _ _ (upd H p (.tup [.str ("hand" : Str), .str (" " : Str), .str (numS h)]))
      generalize upd H p (.tup [.str ("hand" : Str), .str (" " : Str), .str (numS h)]) = H1 at s1 ep
      refine ⟨_, rfl, rfl, _, rfl, iteF' (by kernel_rfl) ⟨_, rfl, rfl, _, rfl, iteF' (by kernel_rfl) ⟨_, rfl, rfl, _, rfl, iteF' (by kernel_rfl) ?_⟩⟩⟩
      refine ⟨_, rfl, _, rfl, _, h, rfl, numS_read nn, by show (numS h).length ≤ 640; omega, _, rfl, rfl, .inr ⟨false, by kernel_rfl, ?_⟩⟩
      exact ⟨_, rfl, wid, ow, a, M, h, false, rfl, hw.same s1, hg, hn, nn.1, fun H' v s2 dv => q H' v (s1.trans s2) dv⟩
    | things h =>
      have nn : Nm h := hok (.n h) (List.mem_singleton.mpr rfl)
      have l1 := (numS_len nn).2
      rw [part_row hok rfl]
      have s1 := same_new (o := .tup [.str ("things" : Str), .str (" " : Str), .str (numS h)]) np
      have ep : upd H p (.tup [.str ("things" : Str), .str (" " : Str), .str (numS h)]) p = some (.tup [.str ("things" : Str), .str (" " : Str), .str (numS h)]) := upd_same
      refine ⟨p, _, rfl, SqT.of ep, rfl, _, _, rfl, _, _, rfl, _, _, rfl, rfl, ?_⟩
      change tSeq _ _ _ _ (upd H p (.tup [.str ("things" : Str), .str (" " : Str), .str (numS h)]))
      generalize upd H p (.tup [.str ("things" : Str), .str (" " : Str), .str (numS h)]) = H1 at s1 ep
      refine ⟨_, rfl, rfl, _, rfl, iteF' (by kernel_rfl) ⟨_, rfl, rfl, _, rfl, iteF' (by kernel_rfl) ⟨_, rfl, rfl, _, rfl, iteF' (by kernel_rfl) ?_⟩⟩⟩
      refine ⟨_, rfl, _, rfl, _, h, rfl, numS_read nn, by show (numS h).length ≤ 640; omega, _, rfl, rfl, .inr ⟨true, by kernel_rfl, ?_⟩⟩
      exact ⟨_, rfl, wid, ow, a, M, h, true, rfl, hw.same s1, hg, hn, nn.1, fun H' v s2 dv => q H' v (s1.trans s2) dv⟩
    | make _ => exact (Bool.false_ne_true hq).elim
    | free _ _ => exact (Bool.false_ne_true hq).elim
    | hold _ _ _ => exact (Bool.false_ne_true hq).elim
    | drop _ _ _ => exact (Bool.false_ne_true hq).elim
    | take _ _ _ => exact (Bool.false_ne_true hq).elim
    | send _ _ _ => exact (Bool.false_ne_true hq).elim
    | ask _ => exact (Bool.false_ne_true hq).elim
    | clean _ => exact (Bool.false_ne_true hq).elim
    | come _ => exact (Bool.false_ne_true hq).elim
end
end Fh

set_option linter.all false
set_option maxRecDepth 100000
namespace Fm
/-! ### houses of a list -/
def isH (hs : List Hs) (h : Int) : Prop := 0 ≤ h ∧ h < (hs.length : Int)
def atH (hs : List Hs) (h : Int) : Hs := hs.getD h.toNat Hs.new
def setH (hs : List Hs) (h : Int) (S : Hs) : List Hs := hs.set h.toNat S
theorem isH_iff {M : Wd} {h : Int} : M.is h = true ↔ isH M.hs h := by unfold Wd.is isH; simp
theorem isH_set {hs : List Hs} {h j : Int} {S : Hs} : isH (setH hs h S) j ↔ isH hs j := by
  unfold isH setH; rw [List.length_set]
theorem atH_set {hs : List Hs} {h j : Int} {S : Hs} (eh : isH hs h) (ej : isH hs j) : atH (setH hs h S) j = if j = h then S else atH hs j := by
  obtain ⟨a1, a2⟩ := eh
  obtain ⟨b1, b2⟩ := ej
  unfold atH setH
  rw [List.getD_eq_getElem?_getD, List.getD_eq_getElem?_getD, List.getElem?_set]
  by_cases e : j = h
  · subst e
    rw [if_pos rfl, if_pos rfl, if_pos (by omega)]
    rfl
  · rw [if_neg (by omega), if_neg e]
theorem atH_self {hs : List Hs} {h : Int} {S : Hs} (eh : isH hs h) : atH (setH hs h S) h = S := by rw [atH_set eh eh, if_pos rfl]
theorem setH_setH {hs : List Hs} {h : Int} {S S' : Hs} : setH (setH hs h S) h S' = setH hs h S' := by
  unfold setH; rw [List.set_set]
/-! ### sums -/
theorem perm_sum {α : Type} {f : α → Int} {a b : List α} (p : a.Perm b) : (a.map f).sum = (b.map f).sum := by
  induction p with
  | nil => rfl
  | cons x _ ih => simp only [List.map_cons, List.sum_cons, ih]
  | swap x y l => simp only [List.map_cons, List.sum_cons]; omega
  | trans _ _ h1 h2 => rw [h1, h2]
theorem sum_app {α : Type} (f : α → Int) (a b : List α) : ((a ++ b).map f).sum = (a.map f).sum + (b.map f).sum := by
  induction a with
  | nil => simp
  | cons x a ih => simp only [List.cons_append, List.map_cons, List.sum_cons, ih]; omega
theorem sum_zero {α : Type} {f : α → Int} {a : List α} (h : ∀ x ∈ a, f x = 0) : (a.map f).sum = 0 := by
  induction a with
  | nil => rfl
  | cons x a ih =>
    rw [List.map_cons, List.sum_cons, h x (List.mem_cons_self ..), ih fun y hy => h y (List.mem_cons_of_mem _ hy)]
    rfl
theorem sum_nonneg {α : Type} {f : α → Int} {a : List α} (h : ∀ x ∈ a, 0 ≤ f x) : 0 ≤ (a.map f).sum := by
  induction a with
  | nil => exact Int.le_refl 0
  | cons x a ih =>
    have h1 := h x (List.mem_cons_self ..)
    have h2 := ih fun y hy => h y (List.mem_cons_of_mem _ hy)
    rw [List.map_cons, List.sum_cons]
    omega
theorem sum_ge {α : Type} {f : α → Int} {a : List α} (h : ∀ x ∈ a, 0 ≤ f x) {x : α} (hx : x ∈ a) : f x ≤ (a.map f).sum := by
  induction a with
  | nil => cases hx
  | cons y a ih =>
    have h1 := h y (List.mem_cons_self ..)
    have h2 := fun z (hz : z ∈ a) => h z (List.mem_cons_of_mem _ hz)
    have h3 := sum_nonneg h2
    rw [List.map_cons, List.sum_cons]
    rcases List.mem_cons.mp hx with rfl | hx
    · omega
    · have := ih h2 hx
      omega
theorem sum_set {α : Type} (f : α → Int) (d x : α) : ∀ (l : List α) (i : Nat), i < l.length → ((l.set i x).map f).sum = (l.map f).sum - f (l.getD i d) + f x
  | y :: l, 0, _ => by
    simp only [List.set_cons_zero, List.map_cons, List.sum_cons, List.getD_cons_zero]
    omega
  | y :: l, i + 1, h => by
    have := sum_set f d x l i (by simpa using h)
    simp only [List.set_cons_succ, List.map_cons, List.sum_cons, List.getD_cons_succ, this]
    omega
/-! ### records, weights -/
def recW (S : Hs) (b : Th) : Int := (dget S.recs b).getD 0
def outW (S : Hs) (n : Int) : Int := (dget S.outs n).getD 0
def wt (b : Th) (l : Lt) : Int := match l.ab with
  | .hold c w => if c = b then w else 0
  | .more c w => if c = b then w else 0
  | .back c w => if c = b then w else 0
  | .pass c _ => if c = b then 1 else 0
  | _ => 0
def RR (hs : List Hs) (b : Th) : Int := (hs.map fun S => recW S b).sum
def LL (ls : List Lt) (b : Th) : Int := (ls.map (wt b)).sum
theorem RR_set {hs : List Hs} {h : Int} {S : Hs} (eh : isH hs h) (b : Th) : RR (setH hs h S) b = RR hs b - recW (atH hs h) b + recW S b := by
  obtain ⟨a1, a2⟩ := eh
  exact sum_set (fun S => recW S b) Hs.new S hs h.toNat (by omega)
theorem LL_app (a c : List Lt) (b : Th) : LL (a ++ c) b = LL a b + LL c b := sum_app ..
theorem LL_perm {a c : List Lt} (p : a.Perm c) (b : Th) : LL a b = LL c b := perm_sum p
/-- a house in itself -/
structure HL (i : Int) (S : Hs) : Prop where
  ko : keys S.outs = keys S.holding
  nd : (keys S.holding).Nodup
  num : ∀ n ∈ keys S.holding, 0 ≤ n ∧ n < S.made
  rf : ∀ t ∈ keys S.recs, t.1 ≠ i
  rn : (keys S.recs).Nodup
  rw : ∀ t w, dget S.recs t = some w → 0 ≤ w
  md : 0 ≤ S.made
  nh : S.hand.Nodup
  near : ∀ t ∈ S.hand, t.1 = i → t.2 ∈ keys S.holding
  far : ∀ t ∈ S.hand, t.1 ≠ i → t ∈ keys S.recs
  ni : ∀ n l, dget S.holding n = some l → l.Nodup
  inn : ∀ n l, dget S.holding n = some l → ∀ t ∈ l, t.1 = i → t.2 ∈ keys S.holding
  inf : ∀ n l, dget S.holding n = some l → ∀ t ∈ l, t.1 ≠ i → t ∈ keys S.recs
theorem HL.hg {i : Int} {S : Hs} (h : HL i S) : HG i S where
  ko := h.ko
  nd := h.nd
  near := h.near
  far := h.far
  inn := fun e he => h.inn e.1 e.2 (dget_of_mem h.nd he)
  inf := fun e he => h.inf e.1 e.2 (dget_of_mem h.nd he)
  num := h.num
  rf := h.rf
  rn := h.rn
  rw := fun e he => h.rw e.1 e.2 (dget_of_mem h.rn he)
  md := h.md
theorem HL.new (i : Int) : HL i Hs.new where
  ko := rfl
  nd := List.nodup_nil
  num := fun n hn => nomatch hn
  rf := fun n hn => nomatch hn
  rn := List.nodup_nil
  rw := fun t w h => nomatch h
  md := Int.le_refl 0
  nh := List.nodup_nil
  near := fun n hn => nomatch hn
  far := fun n hn => nomatch hn
  ni := fun n l h => nomatch h
  inn := fun n l h => nomatch h
  inf := fun n l h => nomatch h
theorem HL.rec0 {i : Int} {S : Hs} (h : HL i S) {b : Th} (e : b.1 = i) : dget S.recs b = none := dget_none.mpr fun z => h.rf _ z e
theorem HL.recW0 {i : Int} {S : Hs} (h : HL i S) {b : Th} (e : b.1 = i) : recW S b = 0 := by unfold recW; rw [h.rec0 e]; rfl
theorem HL.recWn {i : Int} {S : Hs} (h : HL i S) (b : Th) : 0 ≤ recW S b := by
  unfold recW
  rcases e : dget S.recs b with _ | w
  · exact Int.le_refl 0
  · exact h.rw _ _ e
theorem HL.tick {i : Int} {S : Hs} (h : HL i S) (t : Int) : HL i { S with ticks := t } := { h with }
theorem nodup_dr {l : List Th} (h : l.Nodup) (t : Th) : (hdrop l t).Nodup := h.sublist List.filter_sublist
theorem HL.make {i : Int} {S : Hs} (h : HL i S) : HL i (S.make i) := by
  have hn : S.made ∉ keys S.holding := fun z => by have := h.num _ z; omega
  have ho : S.made ∉ keys S.outs := by rw [h.ko]; exact hn
  exact {
    ko := by
      show keys (dput S.outs S.made 0) = keys (dput S.holding S.made [])
      rw [keys_dput, keys_dput, if_neg hn, if_neg ho, h.ko]
    nd := nodup_dput h.nd
    num := fun n z => by
      rcases mem_keys_dput.mp z with rfl | z
      · exact ⟨h.md, by show S.made < S.made + 1; omega⟩
      · have := h.num n z
        exact ⟨this.1, by show n < S.made + 1; omega⟩
    rf := h.rf
    rn := h.rn
    rw := h.rw
    md := by show 0 ≤ S.made + 1; have := h.md; omega
    nh := nodup_hput h.nh
    near := fun t z e => by
      rcases mem_hput.mp z with rfl | z
      · exact mem_keys_dput.mpr (.inl rfl)
      · exact mem_keys_dput.mpr (.inr (h.near t z e))
    far := fun t z e => by
      rcases mem_hput.mp z with rfl | z
      · exact absurd rfl e
      · exact h.far t z e
    ni := fun n l z => by
      rw [show dget (S.make i).holding n = _ from dget_dput S.holding S.made n []] at z
      split at z
      · cases z; exact List.nodup_nil
      · exact h.ni n l z
    inn := fun n l z t ht e => by
      rw [show dget (S.make i).holding n = _ from dget_dput S.holding S.made n []] at z
      split at z
      · cases z; cases ht
      · exact mem_keys_dput.mpr (.inr (h.inn n l z t ht e))
    inf := fun n l z t ht e => by
      rw [show dget (S.make i).holding n = _ from dget_dput S.holding S.made n []] at z
      split at z
      · cases z; cases ht
      · exact h.inf n l z t ht e }
/-- what a thing holds is changed -/
theorem HL.mod {i : Int} {S : Hs} (h : HL i S) (k t : Int) (f : List Th → List Th) (hn : ∀ l, l.Nodup → (f l).Nodup) (hm : ∀ l, dget S.holding k = some l → ∀ x ∈ f l, x ∈ l ∨ x ∈ S.hand) :
    HL i { S with holding := dmod S.holding k f, ticks := t } := by
  have hk : keys (dmod S.holding k f) = keys S.holding := keys_dmod ..
  have hd : ∀ n l, dget (dmod S.holding k f) n = some l → (n = k ∧ ∃ l0, dget S.holding k = some l0 ∧ l = f l0) ∨ (dget S.holding n = some l) := by
    intro n l z
    rw [dget_dmod] at z
    split at z
    · rename_i c
      subst c
      obtain ⟨l0, e, rfl⟩ := Option.map_eq_some_iff.mp z
      exact .inl ⟨rfl, l0, e, rfl⟩
    · exact .inr z
  exact {
    ko := by show keys S.outs = keys (dmod S.holding k f); rw [hk]; exact h.ko
    nd := by show (keys (dmod S.holding k f)).Nodup; rw [hk]; exact h.nd
    num := by show ∀ n ∈ keys (dmod S.holding k f), _; rw [hk]; exact h.num
    rf := h.rf
    rn := h.rn
    rw := h.rw
    md := h.md
    nh := h.nh
    near := by show ∀ t ∈ S.hand, t.1 = i → t.2 ∈ keys (dmod S.holding k f); rw [hk]; exact h.near
    far := h.far
    ni := fun n l z => by
      rcases hd n l z with ⟨rfl, l0, e, rfl⟩ | z
      · exact hn _ (h.ni _ _ e)
      · exact h.ni n l z
    inn := by
      show ∀ n l, dget (dmod S.holding k f) n = some l → ∀ t ∈ l, t.1 = i → t.2 ∈ keys (dmod S.holding k f)
      rw [hk]
      intro n l z t ht e
      rcases hd n l z with ⟨rfl, l0, e0, rfl⟩ | z
      · rcases hm _ e0 t ht with c | c
        · exact h.inn _ _ e0 t c e
        · exact h.near t c e
      · exact h.inn n l z t ht e
    inf := fun n l z t ht e => by
      rcases hd n l z with ⟨rfl, l0, e0, rfl⟩ | z
      · rcases hm _ e0 t ht with c | c
        · exact h.inf _ _ e0 t c e
        · exact h.far t c e
      · exact h.inf n l z t ht e }
/-- the hand is changed -/
theorem HL.hnd {i : Int} {S : Hs} (h : HL i S) (hd : List Th) (hn : hd.Nodup) (hm : ∀ x ∈ hd, x ∈ S.hand ∨ (x.1 = i → x.2 ∈ keys S.holding) ∧ (x.1 ≠ i → x ∈ keys S.recs)) : HL i { S with hand := hd } :=
  { h with
    nh := hn
    near := fun t z e => by
      rcases hm t z with c | c
      · exact h.near t c e
      · exact c.1 e
    far := fun t z e => by
      rcases hm t z with c | c
      · exact h.far t c e
      · exact c.2 e }
/-- weight given out is changed -/
theorem HL.out {i : Int} {S : Hs} (h : HL i S) {n : Int} (hn : n ∈ keys S.holding) (w : Int) : HL i { S with outs := dput S.outs n w } :=
  { h with
    ko := by
      show keys (dput S.outs n w) = keys S.holding
      rw [keys_dput, if_pos (by rw [h.ko]; exact hn), h.ko] }
/-- a record is changed -/
theorem HL.rcd {i : Int} {S : Hs} (h : HL i S) {b : Th} (hb : b.1 ≠ i) {w : Int} (hw : 0 ≤ w) : HL i { S with recs := dput S.recs b w } :=
  { h with
    rf := fun t z => by
      rcases mem_keys_dput.mp z with rfl | z
      · exact hb
      · exact h.rf t z
    rn := nodup_dput h.rn
    rw := fun t v z => by
      rw [dget_dput] at z
      split at z
      · cases z; exact hw
      · exact h.rw t v z
    far := fun t z e => mem_keys_dput.mpr (.inr (h.far t z e))
    inf := fun n l z t ht e => mem_keys_dput.mpr (.inr (h.inf n l z t ht e)) }
/-- things go -/
theorem HL.only {i : Int} {S : Hs} (h : HL i S) (p : Int → Bool) (h1 : ∀ t ∈ S.hand, t.1 = i → p t.2 = true) (h2 : ∀ n l, dget S.holding n = some l → p n = true → ∀ t ∈ l, t.1 = i → p t.2 = true) : HL i (S.only p) := by
  have hk : keys (S.only p).holding = (keys S.holding).filter p := keys_filter ..
  have hd : ∀ n l, dget (S.only p).holding n = some l → p n = true ∧ dget S.holding n = some l := by
    intro n l z
    rw [show dget (S.only p).holding n = _ from dget_filter S.holding p n] at z
    split at z
    · rename_i c; exact ⟨c, z⟩
    · cases z
  exact {
    ko := by
      rw [hk, show keys (S.only p).outs = (keys S.outs).filter p from keys_filter .., h.ko]
    nd := by rw [hk]; exact h.nd.sublist List.filter_sublist
    num := by rw [hk]; exact fun n z => h.num n (List.mem_filter.mp z).1
    rf := h.rf
    rn := h.rn
    rw := h.rw
    md := h.md
    nh := h.nh
    near := by
      rw [hk]
      exact fun t z e => List.mem_filter.mpr ⟨h.near t z e, h1 t z e⟩
    far := h.far
    ni := fun n l z => h.ni n l (hd n l z).2
    inn := by
      rw [hk]
      exact fun n l z t ht e => List.mem_filter.mpr ⟨h.inn n l (hd n l z).2 t ht e, h2 n l (hd n l z).2 (hd n l z).1 t ht e⟩
    inf := fun n l z t ht e => h.inf n l (hd n l z).2 t ht e }
theorem HL.back {i : Int} {S : Hs} (h : HL i S) : HL i S.givenBack := by
  have hk : keys S.givenBack.recs = (keys S.recs).filter fun t => decide (t ∈ S.held) := keys_filter S.recs fun t => decide (t ∈ S.held)
  have hd : ∀ t w, dget S.givenBack.recs t = some w → dget S.recs t = some w := by
    intro t w z
    rw [show dget S.givenBack.recs t = _ from dget_filter S.recs (fun t => decide (t ∈ S.held)) t] at z
    split at z
    · exact z
    · cases z
  exact { h with
    rf := by rw [hk]; exact fun t z => h.rf t (List.mem_filter.mp z).1
    rn := by rw [hk]; exact h.rn.sublist List.filter_sublist
    rw := fun t w z => h.rw t w (hd t w z)
    far := by
      rw [hk]
      exact fun t z e => List.mem_filter.mpr ⟨h.far t z e, decide_eq_true (mem_held.mpr (.inl z))⟩
    inf := by
      rw [hk]
      exact fun n l z t ht e => List.mem_filter.mpr ⟨h.inf n l z t ht e, decide_eq_true (mem_held.mpr (.inr ⟨(n, l), dget_mem z, ht⟩))⟩ }
end Fm

set_option linter.all false
set_option maxRecDepth 100000
namespace Fm
def There (hs : List Hs) (b : Th) : Prop := isH hs b.1 ∧ b.2 ∈ keys (atH hs b.1).holding
def Made (hs : List Hs) (b : Th) : Prop := isH hs b.1 ∧ 0 ≤ b.2 ∧ b.2 < (atH hs b.1).made
/-- a thing of the house holds something -/
def Hd (S : Hs) (n : Int) (b : Th) : Prop := ∃ l, dget S.holding n = some l ∧ b ∈ l
theorem Hd.key {S : Hs} {n : Int} {b : Th} (h : Hd S n b) : n ∈ keys S.holding := by obtain ⟨l, e, _⟩ := h; exact mem_keys e
/-- a letter brings hold of a thing -/
def abt (l : Lt) (b : Th) : Prop := (∃ w, l.ab = .hold b w) ∨ ∃ g, l.ab = .pass b g
/-- a letter that makes up for a record of 0 -/
def Zl (j : Int) (b : Th) (l : Lt) : Prop := (l.sender = j ∧ l.goal = b.1 ∧ ∃ g, l.ab = .pass b g) ∨ (l.goal = j ∧ ∃ w, l.ab = .more b w)
structure Dead (hs : List Hs) (ls : List Lt) (G : Th → Prop) : Prop where
  d1 : ∀ j, isH hs j → ∀ b ∈ (atH hs j).hand, ¬ G b
  d2 : ∀ l ∈ ls, ∀ b, abt l b → ¬ G b
  d3 : ∀ x, There hs x → ¬ G x → ∀ b, Hd (atH hs x.1) x.2 b → ¬ G b
  d4 : ∀ b, G b → Made hs b
def Safe (hs : List Hs) (ls : List Lt) (b : Th) : Prop := ∀ G, Dead hs ls G → ¬ G b
def Dd (hs : List Hs) (ls : List Lt) (x : Th) : Prop := ∃ G, Dead hs ls G ∧ G x
def LtOk (hs : List Hs) (ls : List Lt) (l : Lt) : Prop := isH hs l.sender ∧ isH hs l.goal ∧ match l.ab with
  | .hold b w => There hs b ∧ 1 ≤ w
  | .pass b g => There hs b ∧ l.goal = b.1 ∧ l.sender ≠ b.1 ∧ isH hs g
  | .more b w => Made hs b ∧ l.goal ≠ b.1 ∧ 1 ≤ w
  | .back b w => Made hs b ∧ l.goal = b.1 ∧ 1 ≤ w
  | .lets ts => ∃ G, Dead hs ls G ∧ ∀ n, n ∈ ts.map (·.2) ↔ G (l.goal, n)
  | _ => True
structure Core (hs : List Hs) (ls : List Lt) : Prop where
  hl : ∀ j, isH hs j → HL j (atH hs j)
  ht : ∀ j, isH hs j → ∀ b ∈ (atH hs j).hand, There hs b
  hd : ∀ x, There hs x → ∀ b, Hd (atH hs x.1) x.2 b → There hs b ∨ Dd hs ls x
  hm : ∀ x, There hs x → ∀ b, Hd (atH hs x.1) x.2 b → Made hs b
  rm : ∀ j, isH hs j → ∀ b ∈ keys (atH hs j).recs, Made hs b
  bal : ∀ b, There hs b → outW (atH hs b.1) b.2 = RR hs b + LL ls b
  zr : ∀ j, isH hs j → ∀ b, dget (atH hs j).recs b = some 0 → ∃ l ∈ ls, Zl j b l
  lt : ∀ l ∈ ls, LtOk hs ls l
theorem Core.made {hs : List Hs} {ls : List Lt} (c : Core hs ls) {b : Th} (h : There hs b) : Made hs b := ⟨h.1, (c.hl _ h.1).num _ h.2⟩
theorem Dead.perm {hs : List Hs} {a b : List Lt} {G : Th → Prop} (d : Dead hs a G) (p : ∀ l, l ∈ b → l ∈ a) : Dead hs b G := { d with d2 := fun l hl => d.d2 l (p l hl) }
theorem LtOk.mono {hs hs' : List Hs} {a b : List Lt} {l : Lt} (h : LtOk hs a l) (hi : ∀ j, isH hs j → isH hs' j) (ht : ∀ b, There hs b → There hs' b) (hm : ∀ b, Made hs b → Made hs' b)
    (hd : ∀ G, Dead hs a G → Dead hs' b G) : LtOk hs' b l := by
  obtain ⟨h1, h2, h3⟩ := h
  refine ⟨hi _ h1, hi _ h2, ?_⟩
  revert h3
  rcases l.ab with ⟨q, t⟩ | ⟨q, t⟩ | ⟨b, w⟩ | ⟨b, g⟩ | ⟨b, w⟩ | ⟨b, w⟩ | ts
  · exact fun _ => trivial
  · exact fun _ => trivial
  · exact fun h => ⟨ht _ h.1, h.2⟩
  · exact fun h => ⟨ht _ h.1, h.2.1, h.2.2.1, hi _ h.2.2.2⟩
  · exact fun h => ⟨hm _ h.1, h.2⟩
  · exact fun h => ⟨hm _ h.1, h.2⟩
  · exact fun ⟨G, h1, h2⟩ => ⟨G, hd _ h1, h2⟩
theorem Core.perm {hs : List Hs} {a b : List Lt} (c : Core hs a) (p : a.Perm b) : Core hs b where
  hl := c.hl
  ht := c.ht
  hd := fun x hx y hy => (c.hd x hx y hy).imp id fun ⟨G, h1, h2⟩ => ⟨G, h1.perm fun l hl => p.mem_iff.mpr hl, h2⟩
  hm := c.hm
  rm := c.rm
  bal := fun b hb => by rw [c.bal b hb, LL_perm p]
  zr := fun j hj b hb => by
    obtain ⟨l, h1, h2⟩ := c.zr j hj b hb
    exact ⟨l, p.mem_iff.mp h1, h2⟩
  lt := fun l hl => (c.lt l (p.mem_iff.mpr hl)).mono (fun _ h => h) (fun _ h => h) (fun _ h => h) fun G d => d.perm fun l hl => p.mem_iff.mpr hl
theorem Core.lmade {hs : List Hs} {ls : List Lt} (c : Core hs ls) {a : List Lt} {l : Lt} (h : LtOk hs a l) {b : Th} (hw : wt b l ≠ 0) : Made hs b := by
  obtain ⟨_, _, h3⟩ := h
  unfold wt at hw
  revert h3 hw
  rcases l.ab with ⟨q, t⟩ | ⟨q, t⟩ | ⟨c', w⟩ | ⟨c', g⟩ | ⟨c', w⟩ | ⟨c', w⟩ | ts
  · exact fun h _ => absurd rfl h
  · exact fun h _ => absurd rfl h
  · intro h h3; by_cases e : c' = b
    · subst e; exact c.made h3.1
    · exact absurd (if_neg e) h
  · intro h h3; by_cases e : c' = b
    · subst e; exact c.made h3.1
    · exact absurd (if_neg e) h
  · intro h h3; by_cases e : c' = b
    · subst e; exact h3.1
    · exact absurd (if_neg e) h
  · intro h h3; by_cases e : c' = b
    · subst e; exact h3.1
    · exact absurd (if_neg e) h
  · exact fun h _ => absurd rfl h
theorem LtOk.wn {hs : List Hs} {a : List Lt} {l : Lt} (h : LtOk hs a l) (b : Th) : 0 ≤ wt b l := by
  obtain ⟨_, _, h3⟩ := h
  unfold wt
  revert h3
  rcases l.ab with ⟨q, t⟩ | ⟨q, t⟩ | ⟨c', w⟩ | ⟨c', g⟩ | ⟨c', w⟩ | ⟨c', w⟩ | ts
  · exact fun _ => Int.le_refl 0
  · exact fun _ => Int.le_refl 0
  · intro h3; show 0 ≤ if _ then w else 0; have := h3.2; split <;> omega
  · intro h3; show 0 ≤ if _ then (1 : Int) else 0; split <;> omega
  · intro h3; show 0 ≤ if _ then w else 0; have := h3.2.2; split <;> omega
  · intro h3; show 0 ≤ if _ then w else 0; have := h3.2.2; split <;> omega
  · exact fun _ => Int.le_refl 0
theorem mem_at {hs : List Hs} {S : Hs} (h : S ∈ hs) : ∃ j, isH hs j ∧ atH hs j = S := by
  obtain ⟨i, hi, rfl⟩ := List.getElem_of_mem h
  refine ⟨(i : Int), ⟨by omega, by omega⟩, ?_⟩
  unfold atH
  rw [List.getD_eq_getElem?_getD, Int.toNat_natCast, List.getElem?_eq_getElem hi]
  rfl
theorem at_mem {hs : List Hs} {j : Int} (h : isH hs j) : atH hs j ∈ hs := by
  obtain ⟨h1, h2⟩ := h
  unfold atH
  rw [List.getD_eq_getElem?_getD, List.getElem?_eq_getElem (by omega)]
  exact List.getElem_mem _
theorem RR_zero {hs : List Hs} {b : Th} (h : ∀ j, isH hs j → recW (atH hs j) b = 0) : RR hs b = 0 := sum_zero fun S hS => by
  obtain ⟨j, h1, rfl⟩ := mem_at hS
  exact h j h1
/-- a step of one house with letters taken and put -/
structure Mv (hs : List Hs) (rest : List Lt) (h : Int) (S' : Hs) (out nw : List Lt) : Prop where
  ih : isH hs h
  hl : HL h S'
  md : (atH hs h).made ≤ S'.made
  mono : ∀ n ∈ keys (atH hs h).holding, n ∈ keys S'.holding
  new : ∀ n ∈ keys S'.holding, n ∈ keys (atH hs h).holding ∨ n = (atH hs h).made ∧ outW S' n = 0
  hand : ∀ b ∈ S'.hand, b ∈ (atH hs h).hand ∨ (There hs b ∧ Safe hs (out ++ rest) b) ∨ (b = (h, (atH hs h).made) ∧ b.2 ∈ keys S'.holding)
  hold : ∀ n b, Hd S' n b → Hd (atH hs h) n b ∨ b ∈ (atH hs h).hand
  rcd : ∀ t ∈ keys S'.recs, t ∈ keys (atH hs h).recs ∨ Made hs t
  bal : ∀ n ∈ keys (atH hs h).holding, outW S' n + LL out (h, n) = outW (atH hs h) n + LL nw (h, n)
  balf : ∀ b, b.1 ≠ h → recW S' b + LL nw b = recW (atH hs h) b + LL out b
  zr : ∀ b, dget S'.recs b = some 0 → (dget (atH hs h).recs b = some 0 ∧ ∀ l ∈ out, ¬ Zl h b l) ∨ ∃ l ∈ nw, Zl h b l
  zo : ∀ l ∈ out, ∀ j b, j ≠ h → Zl j b l → ∃ l' ∈ nw, Zl j b l'
  lt : ∀ l ∈ nw, LtOk hs (out ++ rest) l ∧ ∀ b, abt l b → Safe hs (out ++ rest) b
section
variable {hs : List Hs} {rest out nw : List Lt} {h : Int} {S' : Hs}
theorem there_set (ih : isH hs h) {b : Th} : There (setH hs h S') b ↔ isH hs b.1 ∧ (b.1 = h ∧ b.2 ∈ keys S'.holding ∨ b.1 ≠ h ∧ b.2 ∈ keys (atH hs b.1).holding) := by
  unfold There
  rw [isH_set]
  constructor
  · intro ⟨h1, h2⟩
    rw [atH_set ih h1] at h2
    by_cases e : b.1 = h
    · rw [if_pos e] at h2; exact ⟨h1, .inl ⟨e, h2⟩⟩
    · rw [if_neg e] at h2; exact ⟨h1, .inr ⟨e, h2⟩⟩
  · intro ⟨h1, h2⟩
    refine ⟨h1, ?_⟩
    rw [atH_set ih h1]
    rcases h2 with ⟨e, h2⟩ | ⟨e, h2⟩
    · rw [if_pos e]; exact h2
    · rw [if_neg e]; exact h2
theorem Mv.there (m : Mv hs rest h S' out nw) {b : Th} (e : There hs b) : There (setH hs h S') b := by
  refine (there_set m.ih).mpr ⟨e.1, ?_⟩
  by_cases c : b.1 = h
  · exact .inl ⟨c, m.mono _ (by have := e.2; rw [c] at this; exact this)⟩
  · exact .inr ⟨c, e.2⟩
theorem Mv.made (m : Mv hs rest h S' out nw) {b : Th} (e : Made hs b) : Made (setH hs h S') b := by
  refine ⟨isH_set.mpr e.1, e.2.1, ?_⟩
  rw [atH_set m.ih e.1]
  by_cases c : b.1 = h
  · rw [if_pos c]
    have := m.md
    have := e.2.2
    rw [c] at this
    omega
  · rw [if_neg c]; exact e.2.2
/-- what a thing holds behind the step -/
theorem Mv.hds (m : Mv hs rest h S' out nw) {x b : Th} (hx : There (setH hs h S') x) (hb : Hd (atH (setH hs h S') x.1) x.2 b) : (There hs x ∧ Hd (atH hs x.1) x.2 b) ∨ b ∈ (atH hs h).hand := by
  have hi := isH_set.mp hx.1
  rw [atH_set m.ih hi] at hb
  by_cases e : x.1 = h
  · rw [if_pos e] at hb
    rcases m.hold _ _ hb with hb | hb
    · rw [← e] at hb
      exact .inl ⟨⟨hi, hb.key⟩, hb⟩
    · exact .inr hb
  · rw [if_neg e] at hb
    exact .inl ⟨⟨hi, hb.key⟩, hb⟩
theorem Mv.dead (m : Mv hs rest h S' out nw) (c : Core hs (out ++ rest)) {G : Th → Prop} (d : Dead hs (out ++ rest) G) : Dead (setH hs h S') (rest ++ nw) G where
  d1 := fun j hj b hb => by
    have hi := isH_set.mp hj
    rw [atH_set m.ih hi] at hb
    by_cases e : j = h
    · rw [if_pos e] at hb
      rcases m.hand b hb with hb | hb | ⟨rfl, _⟩
      · exact d.d1 _ m.ih b hb
      · exact hb.2 G d
      · exact fun z => by have := (d.d4 _ z).2.2; exact Int.lt_irrefl _ this
    · rw [if_neg e] at hb; exact d.d1 _ hi b hb
  d2 := fun l hl b hb => by
    rcases List.mem_append.mp hl with hl | hl
    · exact d.d2 l (List.mem_append.mpr (.inr hl)) b hb
    · exact (m.lt l hl).2 b hb G d
  d3 := fun x hx hg b hb => by
    rcases m.hds hx hb with ⟨h1, h2⟩ | h1
    · exact d.d3 x h1 hg b h2
    · exact d.d1 _ m.ih b h1
  d4 := fun b hb => m.made (d.d4 b hb)
theorem Mv.core (m : Mv hs rest h S' out nw) (c : Core hs (out ++ rest)) : Core (setH hs h S') (rest ++ nw) where
  hl := fun j hj => by
    have hi := isH_set.mp hj
    rw [atH_set m.ih hi]
    by_cases e : j = h
    · rw [if_pos e, e]; exact m.hl
    · rw [if_neg e]; exact c.hl j hi
  ht := fun j hj b hb => by
    have hi := isH_set.mp hj
    rw [atH_set m.ih hi] at hb
    by_cases e : j = h
    · rw [if_pos e] at hb
      rcases m.hand b hb with hb | hb | ⟨rfl, hb⟩
      · exact m.there (c.ht _ m.ih b hb)
      · exact m.there hb.1
      · exact (there_set m.ih).mpr ⟨m.ih, .inl ⟨rfl, hb⟩⟩
    · rw [if_neg e] at hb; exact m.there (c.ht _ hi b hb)
  hd := fun x hx b hb => by
    rcases m.hds hx hb with ⟨h1, h2⟩ | h1
    · exact (c.hd x h1 b h2).imp m.there fun ⟨G, d, g⟩ => ⟨G, m.dead c d, g⟩
    · exact .inl (m.there (c.ht _ m.ih b h1))
  hm := fun x hx b hb => by
    rcases m.hds hx hb with ⟨h1, h2⟩ | h1
    · exact m.made (c.hm x h1 b h2)
    · exact m.made (c.made (c.ht _ m.ih b h1))
  rm := fun j hj b hb => by
    have hi := isH_set.mp hj
    rw [atH_set m.ih hi] at hb
    by_cases e : j = h
    · rw [if_pos e] at hb
      exact m.made ((m.rcd b hb).elim (c.rm h m.ih b) id)
    · rw [if_neg e] at hb; exact m.made (c.rm j hi b hb)
  bal := fun b hb => by
    obtain ⟨hi, hb⟩ := (there_set m.ih).mp hb
    rw [atH_set m.ih hi, RR_set m.ih, LL_app]
    rcases hb with ⟨e, hb⟩ | ⟨e, hb⟩
    · rw [if_pos e, (c.hl h m.ih).recW0 e, m.hl.recW0 e]
      rcases m.new _ hb with h1 | ⟨h1, h2⟩
      · have h3 := c.bal b ⟨hi, by rw [e]; exact h1⟩
        have h4 := m.bal _ h1
        rw [LL_app, e] at h3
        rw [show ((h, b.2) : Th) = b from Prod.ext e.symm rfl] at h4
        omega
      · have nm : ¬ Made hs b := fun z => by
          have := z.2.2
          rw [e, h1] at this
          exact Int.lt_irrefl _ this
        have z1 : RR hs b = 0 := RR_zero fun j hj => by
          unfold recW
          rw [dget_none.mpr fun z => nm (c.rm j hj b z)]
          rfl
        have z2 : LL rest b = 0 := sum_zero fun l hl => Classical.byContradiction fun z => nm (c.lmade (c.lt l (List.mem_append.mpr (.inr hl))) z)
        have z3 : LL nw b = 0 := sum_zero fun l hl => Classical.byContradiction fun z => nm (c.lmade (m.lt l hl).1 z)
        rw [z1, z2, z3, h2]
        rfl
    · rw [if_neg e]
      have h3 := c.bal b ⟨hi, hb⟩
      have h4 := m.balf b e
      rw [LL_app] at h3
      omega
  zr := fun j hj b hb => by
    have hi := isH_set.mp hj
    rw [atH_set m.ih hi] at hb
    by_cases e : j = h
    · rw [if_pos e] at hb
      rw [e]
      rcases m.zr b hb with ⟨h1, h2⟩ | ⟨l, h1, h2⟩
      · obtain ⟨l, h3, h4⟩ := c.zr h m.ih b h1
        rcases List.mem_append.mp h3 with h3 | h3
        · exact absurd h4 (h2 l h3)
        · exact ⟨l, List.mem_append.mpr (.inl h3), h4⟩
      · exact ⟨l, List.mem_append.mpr (.inr h1), h2⟩
    · rw [if_neg e] at hb
      obtain ⟨l, h3, h4⟩ := c.zr j hi b hb
      rcases List.mem_append.mp h3 with h3 | h3
      · obtain ⟨l', h5, h6⟩ := m.zo l h3 j b e h4
        exact ⟨l', List.mem_append.mpr (.inr h5), h6⟩
      · exact ⟨l, List.mem_append.mpr (.inl h3), h4⟩
  lt := fun l hl => by
    have hk : LtOk hs (out ++ rest) l := by
      rcases List.mem_append.mp hl with hl | hl
      · exact c.lt l (List.mem_append.mpr (.inr hl))
      · exact (m.lt l hl).1
    exact hk.mono (fun j z => isH_set.mpr z) (fun b z => m.there z) (fun b z => m.made z) fun G d => m.dead c d
end
/-! ### things go -/
section
variable {hs : List Hs} {ls : List Lt} {h : Int} {p : Int → Bool}
theorem only_key {S : Hs} {n : Int} : n ∈ keys (S.only p).holding ↔ n ∈ keys S.holding ∧ p n = true := by
  rw [show keys (S.only p).holding = (keys S.holding).filter p from keys_filter .., List.mem_filter]
theorem only_hd {S : Hs} {n : Int} {b : Th} (e : Hd (S.only p) n b) : p n = true ∧ Hd S n b := by
  obtain ⟨l, z, hb⟩ := e
  rw [show dget (S.only p).holding n = _ from dget_filter S.holding p n] at z
  split at z
  · rename_i c; exact ⟨c, l, z, hb⟩
  · cases z
theorem there_only (ih : isH hs h) {b : Th} : There (setH hs h ((atH hs h).only p)) b ↔ There hs b ∧ (b.1 = h → p b.2 = true) := by
  rw [there_set ih]
  constructor
  · rintro ⟨h1, ⟨e, h2⟩ | ⟨e, h2⟩⟩
    · obtain ⟨h3, h4⟩ := only_key.mp h2
      exact ⟨⟨h1, by rw [e]; exact h3⟩, fun _ => h4⟩
    · exact ⟨⟨h1, h2⟩, fun z => absurd z e⟩
  · rintro ⟨h1, h2⟩
    refine ⟨h1.1, ?_⟩
    by_cases e : b.1 = h
    · exact .inl ⟨e, only_key.mpr ⟨by have := h1.2; rw [e] at this; exact this, h2 e⟩⟩
    · exact .inr ⟨e, h1.2⟩
theorem made_only (ih : isH hs h) {b : Th} : Made (setH hs h ((atH hs h).only p)) b ↔ Made hs b := by
  unfold Made
  rw [isH_set]
  constructor
  · rintro ⟨h1, h2, h3⟩
    refine ⟨h1, h2, ?_⟩
    rw [atH_set ih h1] at h3
    by_cases e : b.1 = h
    · rw [if_pos e] at h3; rw [e]; exact h3
    · rw [if_neg e] at h3; exact h3
  · rintro ⟨h1, h2, h3⟩
    refine ⟨h1, h2, ?_⟩
    rw [atH_set ih h1]
    by_cases e : b.1 = h
    · rw [if_pos e]; rw [e] at h3; exact h3
    · rw [if_neg e]; exact h3
theorem only_at (ih : isH hs h) {j : Int} (hj : isH hs j) : (atH (setH hs h ((atH hs h).only p)) j).hand = (atH hs j).hand ∧ (atH (setH hs h ((atH hs h).only p)) j).recs = (atH hs j).recs := by
  rw [atH_set ih hj]
  by_cases e : j = h
  · rw [if_pos e, e]; exact ⟨rfl, rfl⟩
  · rw [if_neg e]; exact ⟨rfl, rfl⟩
theorem hd_only (ih : isH hs h) {x b : Th} (hi : isH hs x.1) (e : Hd (atH (setH hs h ((atH hs h).only p)) x.1) x.2 b) : Hd (atH hs x.1) x.2 b := by
  rw [atH_set ih hi] at e
  by_cases c : x.1 = h
  · rw [if_pos c] at e; rw [c]; exact (only_hd e).2
  · rw [if_neg c] at e; exact e
theorem Dead.only (ih : isH hs h) {G : Th → Prop} (d : Dead hs ls G) : Dead (setH hs h ((atH hs h).only p)) ls G where
  d1 := fun j hj b hb => by
    have hi := isH_set.mp hj
    rw [(only_at ih hi).1] at hb
    exact d.d1 j hi b hb
  d2 := d.d2
  d3 := fun x hx hg b hb => d.d3 x ((there_only ih).mp hx).1 hg b (hd_only ih (isH_set.mp hx.1) hb)
  d4 := fun b hb => (made_only ih).mpr (d.d4 b hb)
theorem RR_only (ih : isH hs h) (b : Th) : RR (setH hs h ((atH hs h).only p)) b = RR hs b := by
  rw [RR_set ih]
  have : recW ((atH hs h).only p) b = recW (atH hs h) b := rfl
  omega
theorem Core.only (c : Core hs ls) (ih : isH hs h)
    (gone : ∀ n ∈ keys (atH hs h).holding, p n = false → (∀ j, isH hs j → (h, n) ∉ (atH hs j).hand) ∧ (∀ l ∈ ls, ¬ abt l (h, n)) ∧ ∀ x, There hs x → (x.1 = h → p x.2 = true) → Hd (atH hs x.1) x.2 (h, n) → x.1 ≠ h ∧ Dd hs ls x) :
    Core (setH hs h ((atH hs h).only p)) ls where
  hl := fun j hj => by
    have hi := isH_set.mp hj
    rw [atH_set ih hi]
    by_cases e : j = h
    · rw [if_pos e, e]
      refine (c.hl h ih).only p (fun t ht e => ?_) fun n l en pn t ht e => ?_
      · rcases q : p t.2 with _ | _
        · exact absurd (by rw [show ((h, t.2) : Th) = t from Prod.ext e.symm rfl]; exact ht) ((gone _ ((c.hl h ih).near t ht e) q).1 h ih)
        · rfl
      · rcases q : p t.2 with _ | _
        · exact absurd rfl ((gone _ ((c.hl h ih).inn n l en t ht e) q).2.2 (h, n) ⟨ih, mem_keys en⟩ (fun _ => pn) ⟨l, en, by rw [show ((h, t.2) : Th) = t from Prod.ext e.symm rfl]; exact ht⟩).1
        · rfl
    · rw [if_neg e]; exact c.hl j hi
  ht := fun j hj b hb => by
    have hi := isH_set.mp hj
    rw [(only_at ih hi).1] at hb
    have := c.ht j hi b hb
    refine (there_only ih).mpr ⟨this, fun e => ?_⟩
    rcases q : p b.2 with _ | _
    · exact absurd (by rw [show ((h, b.2) : Th) = b from Prod.ext e.symm rfl]; exact hb) ((gone _ (by have := this.2; rw [e] at this; exact this) q).1 j hi)
    · rfl
  hd := fun x hx b hb => by
    obtain ⟨hx1, hx2⟩ := (there_only ih).mp hx
    have hb' := hd_only ih hx1.1 hb
    rcases c.hd x hx1 b hb' with h1 | ⟨G, d, g⟩
    · by_cases e : b.1 = h
      · rcases q : p b.2 with _ | _
        · obtain ⟨_, G, d, g⟩ := (gone _ (by have := h1.2; rw [e] at this; exact this) q).2.2 x hx1 hx2 (by rw [show ((h, b.2) : Th) = b from Prod.ext e.symm rfl]; exact hb')
          exact .inr ⟨G, d.only ih, g⟩
        · exact .inl ((there_only ih).mpr ⟨h1, fun _ => q⟩)
      · exact .inl ((there_only ih).mpr ⟨h1, fun z => absurd z e⟩)
    · exact .inr ⟨G, d.only ih, g⟩
  hm := fun x hx b hb => (made_only ih).mpr (c.hm x ((there_only ih).mp hx).1 b (hd_only ih (isH_set.mp hx.1) hb))
  rm := fun j hj b hb => by
    have hi := isH_set.mp hj
    rw [(only_at ih hi).2] at hb
    exact (made_only ih).mpr (c.rm j hi b hb)
  bal := fun b hb => by
    obtain ⟨h1, h2⟩ := (there_only ih).mp hb
    rw [RR_only ih, ← c.bal b h1, atH_set ih h1.1]
    by_cases e : b.1 = h
    · rw [if_pos e, e]
      unfold outW
      rw [show dget ((atH hs h).only p).outs b.2 = _ from dget_filter (atH hs h).outs p b.2, if_pos (h2 e)]
    · rw [if_neg e]
  zr := fun j hj b hb => by
    have hi := isH_set.mp hj
    rw [(only_at ih hi).2] at hb
    exact c.zr j hi b hb
  lt := fun l hl => by
    have hk := c.lt l hl
    have ht : ∀ b, abt l b → There hs b → There (setH hs h ((atH hs h).only p)) b := fun b hb z => by
      refine (there_only ih).mpr ⟨z, fun e => ?_⟩
      rcases q : p b.2 with _ | _
      · exact absurd (by rw [show ((h, b.2) : Th) = b from Prod.ext e.symm rfl]; exact hb) ((gone _ (by have := z.2; rw [e] at this; exact this) q).2.1 l hl)
      · rfl
    obtain ⟨h1, h2, h3⟩ := hk
    refine ⟨isH_set.mpr h1, isH_set.mpr h2, ?_⟩
    have ht' := ht
    unfold abt at ht'
    clear ht
    revert h3 ht'
    rcases l.ab with ⟨q, t⟩ | ⟨q, t⟩ | ⟨b, w⟩ | ⟨b, g⟩ | ⟨b, w⟩ | ⟨b, w⟩ | ts
    · exact fun _ _ => trivial
    · exact fun _ _ => trivial
    · exact fun h ht => ⟨ht b (.inl ⟨w, rfl⟩) h.1, h.2⟩
    · exact fun h ht => ⟨ht b (.inr ⟨g, rfl⟩) h.1, h.2.1, h.2.2.1, isH_set.mpr h.2.2.2⟩
    · exact fun h _ => ⟨(made_only ih).mpr h.1, h.2⟩
    · exact fun h _ => ⟨(made_only ih).mpr h.1, h.2⟩
    · exact fun ⟨G, h1, h2⟩ _ => ⟨G, h1.only ih, h2⟩
end
end Fm

set_option linter.all false
set_option maxRecDepth 100000
namespace Fm
section
variable {hs : List Hs} {ls rest out nw : List Lt} {h : Int} {S' : Hs}
theorem safe_hand {j : Int} (hj : isH hs j) {b : Th} (hb : b ∈ (atH hs j).hand) : Safe hs ls b := fun G d => d.d1 j hj b hb
theorem safe_let {l : Lt} (hl : l ∈ ls) {b : Th} (hb : abt l b) : Safe hs ls b := fun G d => d.d2 l hl b hb
theorem safe_held {x b : Th} (hx : There hs x) (sx : Safe hs ls x) (hb : Hd (atH hs x.1) x.2 b) : Safe hs ls b := fun G d => d.d3 x hx (sx G d) b hb
theorem LL_nil (b : Th) : LL [] b = 0 := rfl
theorem LL_one (l : Lt) (b : Th) : LL [l] b = wt b l := by
  show wt b l + 0 = wt b l
  omega
theorem Mv.loc (ih : isH hs h) (hl : HL h S') (md : S'.made = (atH hs h).made) (ho : S'.outs = (atH hs h).outs) (hr : S'.recs = (atH hs h).recs) (hk : keys S'.holding = keys (atH hs h).holding)
    (hand : ∀ b ∈ S'.hand, b ∈ (atH hs h).hand ∨ (There hs b ∧ Safe hs rest b)) (hold : ∀ n b, Hd S' n b → Hd (atH hs h) n b ∨ b ∈ (atH hs h).hand) : Mv hs rest h S' [] [] where
  ih := ih
  hl := hl
  md := by omega
  mono := fun n z => by rw [hk]; exact z
  new := fun n z => .inl (by rw [← hk]; exact z)
  hand := fun b hb => (hand b hb).imp id .inl
  hold := hold
  rcd := fun t z => .inl (by rw [← hr]; exact z)
  bal := fun n _ => by unfold outW; rw [ho]
  balf := fun b _ => by unfold recW; rw [hr]
  zr := fun b z => .inl ⟨by rw [← hr]; exact z, fun l hl => nomatch hl⟩
  zo := fun l hl => nomatch hl
  lt := fun l hl => nomatch hl
theorem hd_mod {S : Hs} {k t n : Int} {f : List Th → List Th} {b : Th} (e : Hd { S with holding := dmod S.holding k f, ticks := t } n b) : Hd S n b ∨ n = k ∧ ∃ l, dget S.holding k = some l ∧ b ∈ f l := by
  obtain ⟨l, z, hb⟩ := e
  rw [show dget (Hs.holding { S with holding := dmod S.holding k f, ticks := t }) n = _ from dget_dmod S.holding k n f] at z
  split at z
  · rename_i c
    subst c
    obtain ⟨l0, e, rfl⟩ := Option.map_eq_some_iff.mp z
    exact .inr ⟨rfl, l0, e, hb⟩
  · exact .inl ⟨l, z, hb⟩
theorem mv_make (c : Core hs rest) (ih : isH hs h) : Mv hs rest h ((atH hs h).make h) [] [] where
  ih := ih
  hl := (c.hl h ih).make
  md := by show _ ≤ (atH hs h).made + 1; omega
  mono := fun n z => mem_keys_dput.mpr (.inr z)
  new := fun n z => by
    rcases mem_keys_dput.mp z with rfl | z
    · refine .inr ⟨rfl, ?_⟩
      unfold outW
      rw [show dget ((atH hs h).make h).outs (atH hs h).made = _ from dget_dput .., if_pos rfl]
      rfl
    · exact .inl z
  hand := fun b hb => by
    rcases mem_hput.mp hb with rfl | hb
    · exact .inr (.inr ⟨rfl, mem_keys_dput.mpr (.inl rfl)⟩)
    · exact .inl hb
  hold := fun n b ⟨l, z, hb⟩ => by
    rw [show dget ((atH hs h).make h).holding n = _ from dget_dput ..] at z
    split at z
    · cases z; cases hb
    · exact .inl ⟨l, z, hb⟩
  rcd := fun t z => .inl z
  bal := fun n hn => by
    unfold outW
    rw [show dget ((atH hs h).make h).outs n = _ from dget_dput .., if_neg]
    rintro rfl
    have := (c.hl h ih).num _ hn
    omega
  balf := fun b _ => rfl
  zr := fun b z => .inl ⟨z, fun l hl => nomatch hl⟩
  zo := fun l hl => nomatch hl
  lt := fun l hl => nomatch hl
theorem mv_hold (c : Core hs rest) (ih : isH hs h) {a b : Th} (e : (atH hs h).hold h a b = .ok S') : Mv hs rest h S' [] [] := by
  unfold Hs.hold at e
  split at e
  · split at e
    · rename_i hb
      split at e
      · cases e
        refine Mv.loc ih ((c.hl h ih).mod _ _ _ (fun l => nodup_hput) fun l _ x hx => ?_) rfl rfl rfl (keys_dmod (atH hs h).holding a.2 (fun l => hput l b)) (fun b hb => .inl hb) fun n x hx => ?_
        · rcases mem_hput.mp hx with rfl | hx
          · exact .inr hb
          · exact .inl hx
        · rcases hd_mod hx with hx | ⟨rfl, l, e, hx⟩
          · exact .inl hx
          · rcases mem_hput.mp hx with rfl | hx
            · exact .inr hb
            · exact .inl ⟨l, e, hx⟩
      · cases e
    · cases e
  · cases e
theorem heldBy_ok {S : Hs} {a : Th} {l : List Th} (e : S.heldBy h a = .ok l) : a ∈ S.hand ∧ a.1 = h ∧ l = (dget S.holding a.2).getD [] := by
  unfold Hs.heldBy at e
  split at e
  · split at e
    · cases e; exact ⟨‹_›, ‹_›, rfl⟩
    · cases e
  · cases e
theorem mv_drop (c : Core hs rest) (ih : isH hs h) {a b : Th} (e : (atH hs h).drop h a b = .ok S') : Mv hs rest h S' [] [] := by
  unfold Hs.drop at e
  split at e
  · cases e
  · split at e
    · cases e
      refine Mv.loc ih ((c.hl h ih).mod _ _ _ (fun l z => nodup_dr z b) fun l _ x hx => .inl (mem_hdrop.mp hx).1) rfl rfl rfl (keys_dmod (atH hs h).holding a.2 (fun l => hdrop l b)) (fun b hb => .inl hb) fun n x hx => ?_
      rcases hd_mod hx with hx | ⟨rfl, l, e, hx⟩
      · exact .inl hx
      · exact .inl ⟨l, e, (mem_hdrop.mp hx).1⟩
    · cases e
theorem mv_take (c : Core hs rest) (ih : isH hs h) {a b : Th} (e : (atH hs h).take h a b = .ok S') : Mv hs rest h S' [] [] := by
  unfold Hs.take at e
  split at e
  · cases e
  · rename_i l el
    split at e
    · rename_i hb
      cases e
      obtain ⟨ha, hi, rfl⟩ := heldBy_ok el
      have hd : Hd (atH hs h) a.2 b := by
        rcases q : dget (atH hs h).holding a.2 with _ | l
        · rw [q] at hb; cases hb
        · rw [q] at hb; exact ⟨l, q, hb⟩
      have ta : There hs a := c.ht h ih a ha
      have sa : Safe hs rest a := safe_hand ih ha
      have hd' : Hd (atH hs a.1) a.2 b := by rw [hi]; exact hd
      have tb : There hs b := (c.hd a ta b hd').elim id fun ⟨G, d, g⟩ => absurd g (sa G d)
      have sb : Safe hs rest b := safe_held ta sa hd'
      obtain ⟨l, el2, hl⟩ := hd
      refine Mv.loc ih (((c.hl h ih).hnd (hput (atH hs h).hand b) (nodup_hput (c.hl h ih).nh) fun x hx => ?_).tick _) rfl rfl rfl rfl (fun x hx => ?_) fun n x hx => .inl hx
      · rcases mem_hput.mp hx with rfl | hx
        · exact .inr ⟨(c.hl h ih).inn _ _ el2 _ hl, (c.hl h ih).inf _ _ el2 _ hl⟩
        · exact .inl hx
      · rcases mem_hput.mp hx with rfl | hx
        · exact .inr ⟨tb, sb⟩
        · exact .inl hx
    · cases e
theorem mv_free (c : Core hs rest) (ih : isH hs h) {b : Th} (e : (atH hs h).free b = .ok S') : Mv hs rest h S' [] [] := by
  unfold Hs.free at e
  split at e
  · cases e
    exact Mv.loc ih (((c.hl h ih).hnd (hdrop (atH hs h).hand b) (nodup_dr (c.hl h ih).nh b) fun x hx => .inl (mem_hdrop.mp hx).1).tick _) rfl rfl rfl rfl (fun x hx => .inl (mem_hdrop.mp hx).1) fun n x hx => .inl hx
  · cases e
/-! ### weights change -/
theorem outW_put (S : Hs) (n k w : Int) : (dget (dput S.outs k w) n).getD 0 = if n = k then w else outW S n := by
  rw [dget_dput]
  split
  · rfl
  · rfl
theorem recW_put (S : Hs) (b k : Th) (w : Int) : (dget (dput S.recs k w) b).getD 0 = if b = k then w else recW S b := by
  rw [dget_dput]
  split
  · rfl
  · rfl
theorem pair_eta {b : Th} (e : b.1 = h) : b = (h, b.2) := Prod.ext e rfl
theorem mv_send_near (c : Core hs rest) (ih : isH hs h) {g share : Int} (ig : isH hs g) {b : Th} (hb : b ∈ (atH hs h).hand) (e : b.1 = h) (hw : 1 ≤ share) :
    Mv hs rest h { (atH hs h) with outs := dput (atH hs h).outs b.2 ((dget (atH hs h).outs b.2).getD 0 + share), ticks := (atH hs h).ticks + 1 } [] [⟨h, g, .hold b share⟩] where
  ih := ih
  hl := ((c.hl h ih).out ((c.hl h ih).near b hb e) _).tick _
  md := Int.le_refl _
  mono := fun n z => z
  new := fun n z => .inl z
  hand := fun b hb => .inl hb
  hold := fun n b z => .inl z
  rcd := fun t z => .inl z
  bal := fun n hn => by
    rw [LL_nil, LL_one]
    show (dget (dput (atH hs h).outs b.2 _) n).getD 0 + 0 = outW (atH hs h) n + if b = (h, n) then share else 0
    rw [outW_put]
    by_cases q : n = b.2
    · rw [if_pos q, if_pos (Prod.ext e q.symm), q]
      unfold outW
      omega
    · rw [if_neg q, if_neg (fun z => q (by rw [z]))]
  balf := fun x hx => by
    rw [LL_nil, LL_one]
    show _ + (if b = x then share else 0) = _
    rw [if_neg (fun z => hx (by rw [← z]; exact e))]
    rfl
  zr := fun b z => .inl ⟨z, fun l hl => nomatch hl⟩
  zo := fun l hl => nomatch hl
  lt := fun l hl => by
    rcases List.mem_singleton.mp hl with rfl
    refine ⟨⟨ih, ig, c.ht h ih b hb, hw⟩, ?_⟩
    rintro x (⟨w, q⟩ | ⟨w, q⟩) <;> cases q
    exact safe_hand ih hb
theorem mv_send_far (c : Core hs rest) (ih : isH hs h) {g : Int} (ig : isH hs g) {b : Th} (hb : b ∈ (atH hs h).hand) (e : b.1 ≠ h) (hw : recW (atH hs h) b ≠ 0) (t : Int) :
    Mv hs rest h { (atH hs h) with recs := dput (atH hs h).recs b (parted (recW (atH hs h) b)).1, ticks := t } []
      [if (atH hs h).isLast b = true then ⟨h, b.1, .pass b g⟩ else ⟨h, g, .hold b (parted (recW (atH hs h) b)).2⟩] := by
  have hk := (c.hl h ih).far b hb e
  have h0 := (c.hl h ih).recWn b
  have tb := c.ht h ih b hb
  have hp : 0 ≤ (parted (recW (atH hs h) b)).1 ∧ 1 ≤ (parted (recW (atH hs h) b)).2 ∧ (parted (recW (atH hs h) b)).1 + (parted (recW (atH hs h) b)).2 = recW (atH hs h) b ∧ ((parted (recW (atH hs h) b)).1 = 0 → recW (atH hs h) b = 1) := by
    unfold parted
    split
    · rename_i q; rw [q]; exact ⟨Int.le_refl 0, Int.le_refl 1, rfl, fun _ => rfl⟩
    · refine ⟨?_, ?_, ?_, ?_⟩ <;> simp only <;> omega
  have hlast : (atH hs h).isLast b = true ↔ recW (atH hs h) b = 1 := by unfold Hs.isLast recW; exact decide_eq_true_iff
  have hwt : ∀ x, wt x (if (atH hs h).isLast b = true then (⟨h, b.1, .pass b g⟩ : Lt) else ⟨h, g, .hold b (parted (recW (atH hs h) b)).2⟩) = if b = x then (parted (recW (atH hs h) b)).2 else 0 := by
    intro x
    split
    · rename_i q
      show (if b = x then (1 : Int) else 0) = _
      rw [hlast.mp q]
      rfl
    · rfl
  exact {
    ih := ih
    hl := ((c.hl h ih).rcd e hp.1).tick _
    md := Int.le_refl _
    mono := fun n z => z
    new := fun n z => .inl z
    hand := fun b hb => .inl hb
    hold := fun n b z => .inl z
    rcd := fun t z => by
      rcases mem_keys_dput.mp z with rfl | z
      · exact .inl hk
      · exact .inl z
    bal := fun n hn => by
      rw [LL_nil, LL_one, hwt, if_neg (fun z => e (by rw [z]))]
      rfl
    balf := fun x hx => by
      rw [LL_nil, LL_one, hwt]
      show (dget (dput (atH hs h).recs b _) x).getD 0 + _ = _
      rw [recW_put]
      by_cases q : x = b
      · rw [if_pos q, if_pos q.symm, q]; omega
      · rw [if_neg q, if_neg (fun z => q z.symm)]
    zr := fun x z => by
      rw [show dget (dput (atH hs h).recs b _) x = _ from dget_dput ..] at z
      split at z
      · rename_i q
        refine .inr ⟨_, List.mem_singleton.mpr rfl, ?_⟩
        rw [if_pos (hlast.mpr (hp.2.2.2 (Option.some.inj z))), q]
        exact .inl ⟨rfl, rfl, g, rfl⟩
      · exact .inl ⟨z, fun l hl => nomatch hl⟩
    zo := fun l hl => nomatch hl
    lt := fun l hl => by
      rcases List.mem_singleton.mp hl with rfl
      split
      · refine ⟨⟨ih, tb.1, tb, rfl, fun z => e z.symm, ig⟩, ?_⟩
        rintro x (⟨w, q⟩ | ⟨w, q⟩) <;> cases q
        exact safe_hand ih hb
      · refine ⟨⟨ih, ig, tb, hp.2.1⟩, ?_⟩
        rintro x (⟨w, q⟩ | ⟨w, q⟩) <;> cases q
        exact safe_hand ih hb }
end
end Fm

set_option linter.all false
set_option maxRecDepth 100000
namespace Fm
section
variable {hs : List Hs} {ls rest out nw : List Lt} {h : Int} {S' : Hs} {l : Lt} {b : Th} {w : Int}
theorem wt_hold (e : l.ab = .hold b w) (x : Th) : wt x l = if b = x then w else 0 := by unfold wt; rw [e]
theorem wt_more (e : l.ab = .more b w) (x : Th) : wt x l = if b = x then w else 0 := by unfold wt; rw [e]
theorem wt_back (e : l.ab = .back b w) (x : Th) : wt x l = if b = x then w else 0 := by unfold wt; rw [e]
theorem wt_pass {g : Int} (e : l.ab = .pass b g) (x : Th) : wt x l = if b = x then 1 else 0 := by unfold wt; rw [e]
theorem mv_came (c : Core hs ([l] ++ rest)) (e : l.ab = .hold b w) : Mv hs rest l.goal ((atH hs l.goal).came l.goal b w) [l] [] := by
  obtain ⟨is, ih, h3⟩ := c.lt l (List.mem_cons_self ..)
  rw [e] at h3
  obtain ⟨tb, hw⟩ := h3
  have sb : Safe hs ([l] ++ rest) b := safe_let (List.mem_cons_self ..) (.inl ⟨w, e⟩)
  have hz : ∀ j x, ¬ Zl j x l := by
    rintro j x (⟨_, _, g, q⟩ | ⟨_, w', q⟩) <;> · rw [e] at q; cases q
  have hL := c.hl _ ih
  unfold Hs.came
  by_cases q : b.1 = l.goal
  · rw [if_pos q]
    have hk : b.2 ∈ keys (atH hs l.goal).holding := by have := tb.2; rw [q] at this; exact this
    unfold Hs.given
    rw [if_pos (show (dget (Hs.outs { (atH hs l.goal) with hand := hput (atH hs l.goal).hand b }) b.2).isSome = true from dget_isSome.mpr (by rw [show (Hs.outs { (atH hs l.goal) with hand := hput (atH hs l.goal).hand b }) = (atH hs l.goal).outs from rfl, hL.ko]; exact hk))]
    exact {
      ih := ih
      hl := ((hL.hnd (hput (atH hs l.goal).hand b) (nodup_hput hL.nh) fun x hx => by
        rcases mem_hput.mp hx with rfl | hx
        · exact .inr ⟨fun _ => hk, fun z => absurd q z⟩
        · exact .inl hx).out hk _).tick _
      md := Int.le_refl _
      mono := fun n z => z
      new := fun n z => .inl z
      hand := fun x hx => by
        rcases mem_hput.mp hx with rfl | hx
        · exact .inr (.inl ⟨tb, sb⟩)
        · exact .inl hx
      hold := fun n b z => .inl z
      rcd := fun t z => .inl z
      bal := fun n hn => by
        rw [LL_nil, LL_one, wt_hold e]
        show (dget (dput (atH hs l.goal).outs b.2 _) n).getD 0 + _ = outW (atH hs l.goal) n + 0
        rw [outW_put]
        by_cases z : n = b.2
        · rw [if_pos z, if_pos (Prod.ext q z.symm), z]
          show outW (atH hs l.goal) b.2 - w + w = _
          omega
        · rw [if_neg z, if_neg (fun y => z (by rw [y]))]
      balf := fun x hx => by
        rw [LL_nil, LL_one, wt_hold e, if_neg (fun z => hx (by rw [← z]; exact q))]
        rfl
      zr := fun b z => .inl ⟨z, fun l' hl => by rcases List.mem_singleton.mp hl with rfl; exact hz _ _⟩
      zo := fun l' hl j x _ z => by rcases List.mem_singleton.mp hl with rfl; exact absurd z (hz _ _)
      lt := fun l hl => nomatch hl }
  · rw [if_neg q]
    have h0 := hL.recWn b
    exact {
      ih := ih
      hl := by
        have h1 := hL.rcd q (w := recW (atH hs l.goal) b + w) (by omega)
        exact (h1.hnd (hput (atH hs l.goal).hand b) (nodup_hput hL.nh) fun x hx => by
          rcases mem_hput.mp hx with rfl | hx
          · exact .inr ⟨fun z => absurd z q, fun _ => mem_keys_dput.mpr (.inl rfl)⟩
          · exact .inl hx).tick _
      md := Int.le_refl _
      mono := fun n z => z
      new := fun n z => .inl z
      hand := fun x hx => by
        rcases mem_hput.mp hx with rfl | hx
        · exact .inr (.inl ⟨tb, sb⟩)
        · exact .inl hx
      hold := fun n b z => .inl z
      rcd := fun t z => by
        rcases mem_keys_dput.mp z with rfl | z
        · exact .inr (c.made tb)
        · exact .inl z
      bal := fun n hn => by
        rw [LL_nil, LL_one, wt_hold e, if_neg (fun z => q (by rw [z]))]
        rfl
      balf := fun x hx => by
        rw [LL_nil, LL_one, wt_hold e]
        show (dget (dput (atH hs l.goal).recs b _) x).getD 0 + 0 = _
        rw [recW_put]
        by_cases z : x = b
        · rw [if_pos z, if_pos z.symm, z]
          show recW (atH hs l.goal) b + w + 0 = _
          omega
        · rw [if_neg z, if_neg (fun y => z y.symm)]
      zr := fun x z => by
        have z : dget (dput (atH hs l.goal).recs b ((dget (atH hs l.goal).recs b).getD 0 + w)) x = some 0 := z
        rw [dget_dput] at z
        split at z
        · have := Option.some.inj z
          have : recW (atH hs l.goal) b + w = 0 := this
          omega
        · exact .inl ⟨z, fun l' hl => by rcases List.mem_singleton.mp hl with rfl; exact hz _ _⟩
      zo := fun l' hl j x _ z => by rcases List.mem_singleton.mp hl with rfl; exact absurd z (hz _ _)
      lt := fun l hl => nomatch hl }
theorem mv_added (c : Core hs ([l] ++ rest)) (e : l.ab = .more b w) : Mv hs rest l.goal ((atH hs l.goal).added b w) [l] [] := by
  obtain ⟨is, ih, h3⟩ := c.lt l (List.mem_cons_self ..)
  rw [e] at h3
  obtain ⟨mb, q, hw⟩ := h3
  have q : b.1 ≠ l.goal := fun z => q z.symm
  have hz : ∀ j x, Zl j x l → j = l.goal ∧ x = b := by
    rintro j x (⟨_, _, g, q⟩ | ⟨y, w', q⟩)
    · rw [e] at q; cases q
    · rw [e] at q; cases q; exact ⟨y.symm, rfl⟩
  have hL := c.hl _ ih
  have h0 := hL.recWn b
  exact {
    ih := ih
    hl := (hL.rcd q (w := recW (atH hs l.goal) b + w) (by omega)).tick _
    md := Int.le_refl _
    mono := fun n z => z
    new := fun n z => .inl z
    hand := fun x hx => .inl hx
    hold := fun n b z => .inl z
    rcd := fun t z => by
      rcases mem_keys_dput.mp z with rfl | z
      · exact .inr mb
      · exact .inl z
    bal := fun n hn => by
      rw [LL_nil, LL_one, wt_more e, if_neg (fun z => q (by rw [z]))]
      rfl
    balf := fun x hx => by
      rw [LL_nil, LL_one, wt_more e]
      show (dget (dput (atH hs l.goal).recs b _) x).getD 0 + 0 = _
      rw [recW_put]
      by_cases z : x = b
      · rw [if_pos z, if_pos z.symm, z]
        show recW (atH hs l.goal) b + w + 0 = _
        omega
      · rw [if_neg z, if_neg (fun y => z y.symm)]
    zr := fun x z => by
      have z : dget (dput (atH hs l.goal).recs b ((dget (atH hs l.goal).recs b).getD 0 + w)) x = some 0 := z
      rw [dget_dput] at z
      split at z
      · have := Option.some.inj z
        have : recW (atH hs l.goal) b + w = 0 := this
        omega
      · rename_i y
        exact .inl ⟨z, fun l' hl => by rcases List.mem_singleton.mp hl with rfl; exact fun k => y (hz _ _ k).2⟩
    zo := fun l' hl j x hj z => by rcases List.mem_singleton.mp hl with rfl; exact absurd (hz _ _ z).1 hj
    lt := fun l hl => nomatch hl }
theorem given_out (S : Hs) (b : Th) (w : Int) (n : Int) (hn : n ∈ keys S.outs) : outW (S.given b w) n = if n = b.2 then outW S n - w else outW S n := by
  unfold outW Hs.given
  simp only
  by_cases q : n = b.2
  · subst q
    rw [if_pos (dget_isSome.mpr hn), dget_dput, if_pos rfl, if_pos rfl]
    rfl
  · rw [if_neg q]
    split
    · rw [dget_dput, if_neg q]
    · rfl
theorem HL.given (hh : HL h S') (b : Th) (w : Int) : HL h (S'.given b w) := by
  unfold Hs.given
  split
  · rename_i q
    exact (hh.out (by rw [← hh.ko]; exact dget_isSome.mp q) _).tick _
  · exact hh.tick _
theorem mv_given (c : Core hs ([l] ++ rest)) (e : l.ab = .back b w) : Mv hs rest l.goal ((atH hs l.goal).given b w) [l] [] := by
  obtain ⟨is, ih, h3⟩ := c.lt l (List.mem_cons_self ..)
  rw [e] at h3
  obtain ⟨mb, q, hw⟩ := h3
  have hz : ∀ j x, ¬ Zl j x l := by
    rintro j x (⟨_, _, g, q⟩ | ⟨_, w', q⟩) <;> · rw [e] at q; cases q
  have hL := c.hl _ ih
  exact {
    ih := ih
    hl := hL.given b w
    md := Int.le_refl _
    mono := fun n z => z
    new := fun n z => .inl z
    hand := fun x hx => .inl hx
    hold := fun n b z => .inl z
    rcd := fun t z => .inl z
    bal := fun n hn => by
      rw [LL_nil, LL_one, wt_back e, given_out _ _ _ _ (by rw [hL.ko]; exact hn)]
      by_cases z : n = b.2
      · rw [if_pos z, if_pos (Prod.ext q.symm z.symm)]; omega
      · rw [if_neg z, if_neg (fun y => z (by rw [y]))]
    balf := fun x hx => by
      rw [LL_nil, LL_one, wt_back e, if_neg (fun z => hx (by rw [← z]; exact q.symm))]
      rfl
    zr := fun b z => .inl ⟨z, fun l' hl => by rcases List.mem_singleton.mp hl with rfl; exact hz _ _⟩
    zo := fun l' hl j x _ z => by rcases List.mem_singleton.mp hl with rfl; exact absurd z (hz _ _)
    lt := fun l hl => nomatch hl }
theorem mv_passed (c : Core hs ([l] ++ rest)) {g share : Int} (e : l.ab = .pass b g) (hw : 1 ≤ share) :
    Mv hs rest l.goal ((atH hs l.goal).passed b share (decide (g = l.goal))) [l] (if g = l.goal then [⟨l.goal, l.sender, .more b share⟩] else [⟨l.goal, g, .hold b share⟩, ⟨l.goal, l.sender, .more b share⟩]) := by
  obtain ⟨is, ih, h3⟩ := c.lt l (List.mem_cons_self ..)
  rw [e] at h3
  obtain ⟨tb, q, q2, ig⟩ := h3
  have sb : Safe hs ([l] ++ rest) b := safe_let (List.mem_cons_self ..) (.inr ⟨g, e⟩)
  have hz : ∀ j x, Zl j x l → j = l.sender ∧ x = b := by
    rintro j x (⟨y, _, g, q⟩ | ⟨y, w', q⟩)
    · rw [e] at q; cases q; exact ⟨y.symm, rfl⟩
    · rw [e] at q; cases q
  have hL := c.hl _ ih
  have hk : b.2 ∈ keys (atH hs l.goal).holding := by have := tb.2; rw [← q] at this; exact this
  have hm : LtOk hs ([l] ++ rest) ⟨l.goal, l.sender, .more b share⟩ := ⟨ih, is, c.made tb, q2, hw⟩
  have hzn : ∀ nw : List Lt, (⟨l.goal, l.sender, .more b share⟩ : Lt) ∈ nw → ∀ x, dget (atH hs l.goal).recs x = some 0 → (dget (atH hs l.goal).recs x = some 0 ∧ ∀ l' ∈ [l], ¬ Zl l.goal x l') ∨ ∃ l' ∈ nw, Zl l.goal x l' := fun nw _ x z => .inl ⟨z, fun l' hl => by
    rcases List.mem_singleton.mp hl with rfl
    exact fun k => q2 (by rw [← (hz _ _ k).1, q])⟩
  have hzo : ∀ nw : List Lt, (⟨l.goal, l.sender, .more b share⟩ : Lt) ∈ nw → ∀ l' ∈ [l], ∀ j x, j ≠ l.goal → Zl j x l' → ∃ l'' ∈ nw, Zl j x l'' := fun nw hn l' hl j x _ z => by
    rcases List.mem_singleton.mp hl with rfl
    obtain ⟨rfl, rfl⟩ := hz _ _ z
    exact ⟨_, hn, .inr ⟨rfl, share, rfl⟩⟩
  unfold Hs.passed
  by_cases y : g = l.goal
  · rw [if_pos (decide_eq_true y), if_pos y]
    exact {
      ih := ih
      hl := ((hL.hnd (hput (atH hs l.goal).hand b) (nodup_hput hL.nh) fun x hx => by
        rcases mem_hput.mp hx with rfl | hx
        · exact .inr ⟨fun _ => hk, fun z => absurd q.symm z⟩
        · exact .inl hx).out hk _).tick _
      md := Int.le_refl _
      mono := fun n z => z
      new := fun n z => .inl z
      hand := fun x hx => by
        rcases mem_hput.mp hx with rfl | hx
        · exact .inr (.inl ⟨tb, sb⟩)
        · exact .inl hx
      hold := fun n b z => .inl z
      rcd := fun t z => .inl z
      bal := fun n hn => by
        rw [LL_one, LL_one, wt_pass e]
        show (dget (dput (atH hs l.goal).outs b.2 _) n).getD 0 + _ = outW (atH hs l.goal) n + if b = (l.goal, n) then share else 0
        rw [outW_put]
        by_cases z : n = b.2
        · rw [if_pos z, if_pos (Prod.ext q.symm z.symm), if_pos (Prod.ext q.symm z.symm), z]
          show outW (atH hs l.goal) b.2 - 1 + share + 1 = _
          omega
        · rw [if_neg z, if_neg (fun y => z (by rw [y])), if_neg (fun y => z (by rw [y]))]
      balf := fun x hx => by
        rw [LL_one, LL_one, wt_pass e, if_neg (fun z => hx (by rw [← z]; exact q.symm))]
        show _ + (if b = x then share else 0) = _
        rw [if_neg (fun z => hx (by rw [← z]; exact q.symm))]
        rfl
      zr := hzn _ (List.mem_singleton.mpr rfl)
      zo := hzo _ (List.mem_singleton.mpr rfl)
      lt := fun l' hl => by
        rcases List.mem_singleton.mp hl with rfl
        refine ⟨hm, ?_⟩
        rintro x (⟨w, q⟩ | ⟨w, q⟩) <;> cases q }
  · rw [if_neg (fun z => y (of_decide_eq_true z)), if_neg y]
    have hsum : ∀ x, LL [(⟨l.goal, g, .hold b share⟩ : Lt), ⟨l.goal, l.sender, .more b share⟩] x = if b = x then share + share else 0 := by
      intro x
      show (if b = x then share else 0) + ((if b = x then share else 0) + 0) = _
      split <;> omega
    exact {
      ih := ih
      hl := (hL.out hk _).tick _
      md := Int.le_refl _
      mono := fun n z => z
      new := fun n z => .inl z
      hand := fun x hx => .inl hx
      hold := fun n b z => .inl z
      rcd := fun t z => .inl z
      bal := fun n hn => by
        rw [hsum, LL_one, wt_pass e]
        show (dget (dput (atH hs l.goal).outs b.2 _) n).getD 0 + _ = outW (atH hs l.goal) n + _
        rw [outW_put]
        by_cases z : n = b.2
        · rw [if_pos z, if_pos (Prod.ext q.symm z.symm), if_pos (Prod.ext q.symm z.symm), z]
          show outW (atH hs l.goal) b.2 - 1 + share + share + 1 = _
          omega
        · rw [if_neg z, if_neg (fun y => z (by rw [y])), if_neg (fun y => z (by rw [y]))]
      balf := fun x hx => by
        rw [hsum, LL_one, wt_pass e, if_neg (fun z => hx (by rw [← z]; exact q.symm)), if_neg (fun z => hx (by rw [← z]; exact q.symm))]
        rfl
      zr := hzn _ (List.mem_cons_of_mem _ (List.mem_singleton.mpr rfl))
      zo := hzo _ (List.mem_cons_of_mem _ (List.mem_singleton.mpr rfl))
      lt := fun l' hl => by
        rcases List.mem_cons.mp hl with rfl | hl
        · refine ⟨⟨ih, ig, tb, hw⟩, ?_⟩
          rintro x (⟨w, q⟩ | ⟨w, q⟩) <;> cases q
          exact sb
        · rcases List.mem_singleton.mp hl with rfl
          refine ⟨hm, ?_⟩
          rintro x (⟨w, q⟩ | ⟨w, q⟩) <;> cases q }
/-! ### what is given back -/
def backF (S : Hs) (t : Th) : Option (Th × Int) := if t ∈ S.held then none else if (dget S.recs t).getD 0 > 0 then some (t, (dget S.recs t).getD 0) else none
theorem LL_back {S : Hs} (hn : ∀ b, 0 ≤ recW S b) (h : Int) (b : Th) : ∀ ks : List Th, ks.Nodup → LL (backLts h (ks.filterMap (backF S))) b = if b ∈ ks ∧ b ∉ S.held then recW S b else 0
  | [], _ => by rw [if_neg (fun z => nomatch z.1)]; rfl
  | k :: ks, nd => by
    have nd' := List.nodup_cons.mp nd
    have ih := LL_back hn h b ks nd'.2
    have h0 := hn b
    have hc : LL (backLts h ((k :: ks).filterMap (backF S))) b = (if k = b ∧ k ∉ S.held then recW S b else 0) + LL (backLts h (ks.filterMap (backF S))) b := by
      rw [List.filterMap_cons]
      by_cases c : k ∈ S.held
      · rw [show backF S k = none from if_pos c]
        rw [if_neg (fun z => z.2 c)]
        simp only
        omega
      · by_cases c2 : (dget S.recs k).getD 0 > 0
        · rw [show backF S k = some (k, (dget S.recs k).getD 0) from (if_neg c).trans (if_pos c2)]
          show (if k = b then (dget S.recs k).getD 0 else 0) + LL (backLts h (ks.filterMap (backF S))) b = _
          by_cases q : k = b
          · rw [if_pos q, if_pos ⟨q, c⟩, q]; rfl
          · rw [if_neg q, if_neg (fun z => q z.1)]
        · rw [show backF S k = none from (if_neg c).trans (if_neg c2)]
          by_cases q : k = b
          · rw [if_pos ⟨q, c⟩]
            subst q
            have : recW S k = 0 := by unfold recW at *; omega
            simp only
            omega
          · rw [if_neg (fun z => q z.1)]
            simp only
            omega
    rw [hc, ih]
    by_cases q : k = b
    · subst q
      rw [if_neg (show ¬ (k ∈ ks ∧ k ∉ S.held) from fun z => nd'.1 z.1)]
      by_cases c : k ∈ S.held
      · rw [if_neg (fun z => z.2 c), if_neg (fun z => z.2 c)]; rfl
      · rw [if_pos ⟨rfl, c⟩, if_pos ⟨List.mem_cons_self .., c⟩]; omega
    · rw [if_neg (fun z => q z.1)]
      by_cases c : b ∈ ks ∧ b ∉ S.held
      · rw [if_pos c, if_pos ⟨List.mem_cons_of_mem _ c.1, c.2⟩]; omega
      · rw [if_neg c, if_neg]
        · rfl
        · rintro ⟨z, z2⟩
          rcases List.mem_cons.mp z with z | z
          · exact q z.symm
          · exact c ⟨z, z2⟩
theorem mem_back {S : Hs} {e : Th × Int} (he : e ∈ S.back) : e.1 ∈ keys S.recs ∧ e.2 = recW S e.1 ∧ 0 < e.2 := by
  obtain ⟨t, ht, q⟩ := List.mem_filterMap.mp he
  split at q
  · cases q
  · split at q
    · cases q
      exact ⟨mem_sortT.mp ht, rfl, ‹_›⟩
    · cases q
theorem mv_back (c : Core hs rest) (ih : isH hs h) : Mv hs rest h (atH hs h).givenBack [] (backLts h (atH hs h).back) := by
  have hL := c.hl _ ih
  have hsum : ∀ b, LL (backLts h (atH hs h).back) b = if b ∈ keys (atH hs h).recs ∧ b ∉ (atH hs h).held then recW (atH hs h) b else 0 := by
    intro b
    have := LL_back hL.recWn h b (sortT (keys (atH hs h).recs)) ((List.mergeSort_perm _ leT).nodup_iff.mpr hL.rn)
    simp only [mem_sortT] at this
    exact this
  have hd : ∀ t, dget (atH hs h).givenBack.recs t = if t ∈ (atH hs h).held then dget (atH hs h).recs t else none := by
    intro t
    rw [show dget (atH hs h).givenBack.recs t = _ from dget_filter (atH hs h).recs (fun t => decide (t ∈ (atH hs h).held)) t]
    by_cases q : t ∈ (atH hs h).held
    · rw [if_pos (decide_eq_true q), if_pos q]
    · rw [if_neg (fun z => q (of_decide_eq_true z)), if_neg q]
  exact {
    ih := ih
    hl := hL.back
    md := Int.le_refl _
    mono := fun n z => z
    new := fun n z => .inl z
    hand := fun x hx => .inl hx
    hold := fun n b z => .inl z
    rcd := fun t z => .inl (by
      have := keys_filter (atH hs h).recs fun t => decide (t ∈ (atH hs h).held)
      have z : t ∈ keys ((atH hs h).recs.filter fun e => decide (e.1 ∈ (atH hs h).held)) := z
      rw [this] at z
      exact (List.mem_filter.mp z).1)
    bal := fun n hn => by
      rw [LL_nil, hsum, hL.recW0 rfl]
      simp only [ite_self]
      rfl
    balf := fun x hx => by
      rw [LL_nil, hsum]
      unfold recW
      rw [hd]
      by_cases q : x ∈ (atH hs h).held
      · rw [if_pos q, if_neg (fun z => z.2 q)]
      · rw [if_neg q]
        by_cases q2 : x ∈ keys (atH hs h).recs
        · rw [if_pos ⟨q2, q⟩]
          show 0 + _ = _ + 0
          omega
        · rw [if_neg (fun z => q2 z.1), dget_none.mpr q2]
    zr := fun x z => by
      rw [hd] at z
      split at z
      · exact .inl ⟨z, fun l hl => nomatch hl⟩
      · cases z
    zo := fun l hl => nomatch hl
    lt := fun l hl => by
      obtain ⟨e, he, rfl⟩ := List.mem_map.mp hl
      obtain ⟨h1, h2, h3⟩ := mem_back he
      have := c.rm h ih _ h1
      refine ⟨⟨ih, this.1, this, rfl, by omega⟩, ?_⟩
      rintro x (⟨w, q⟩ | ⟨w, q⟩) <;> cases q }
/-! ### letters without weight -/
def isCtl (l : Lt) : Prop := match l.ab with
  | .ask _ _ => True
  | .ans _ _ => True
  | .lets _ => True
  | _ => False
theorem isCtl.wt {l : Lt} (h : isCtl l) (b : Th) : wt b l = 0 := by
  unfold isCtl at h
  unfold Fm.wt
  revert h
  rcases l.ab with ⟨q, t⟩ | ⟨q, t⟩ | ⟨c', w⟩ | ⟨c', g⟩ | ⟨c', w⟩ | ⟨c', w⟩ | ts <;> intro h <;> first | rfl | exact h.elim
theorem isCtl.ab {l : Lt} (h : isCtl l) (b : Th) : ¬ abt l b := by
  unfold isCtl at h
  rintro (⟨w, q⟩ | ⟨w, q⟩) <;> rw [q] at h <;> exact h
theorem isCtl.z {l : Lt} (h : isCtl l) (j : Int) (b : Th) : ¬ Zl j b l := by
  unfold isCtl at h
  rintro (⟨_, _, w, q⟩ | ⟨_, w, q⟩) <;> rw [q] at h <;> exact h
theorem LL_ctl {ls : List Lt} (h : ∀ l ∈ ls, isCtl l) (b : Th) : LL ls b = 0 := sum_zero fun l hl => (h l hl).wt b
theorem Dead.ctl (ho : ∀ l ∈ out, isCtl l) (hn : ∀ l ∈ nw, isCtl l) {G : Th → Prop} (d : Dead hs (out ++ rest) G) : Dead hs (rest ++ nw) G :=
  { d with
    d2 := fun l hl b hb => by
      rcases List.mem_append.mp hl with hl | hl
      · exact d.d2 l (List.mem_append.mpr (.inr hl)) b hb
      · exact absurd hb ((hn l hl).ab b) }
theorem Core.ctl (c : Core hs (out ++ rest)) (ho : ∀ l ∈ out, isCtl l) (hn : ∀ l ∈ nw, isCtl l ∧ LtOk hs (out ++ rest) l) : Core hs (rest ++ nw) where
  hl := c.hl
  ht := c.ht
  hd := fun x hx b hb => (c.hd x hx b hb).imp id fun ⟨G, d, g⟩ => ⟨G, d.ctl ho fun l hl => (hn l hl).1, g⟩
  hm := c.hm
  rm := c.rm
  bal := fun b hb => by
    rw [c.bal b hb, LL_app, LL_app, LL_ctl ho, LL_ctl fun l hl => (hn l hl).1]
    omega
  zr := fun j hj b hb => by
    obtain ⟨l, h1, h2⟩ := c.zr j hj b hb
    rcases List.mem_append.mp h1 with h1 | h1
    · exact absurd h2 ((ho l h1).z j b)
    · exact ⟨l, List.mem_append.mpr (.inl h1), h2⟩
  lt := fun l hl => by
    have hk : LtOk hs (out ++ rest) l := by
      rcases List.mem_append.mp hl with hl | hl
      · exact c.lt l (List.mem_append.mpr (.inr hl))
      · exact (hn l hl).2
    exact hk.mono (fun _ h => h) (fun _ h => h) (fun _ h => h) fun G d => d.ctl ho fun l hl => (hn l hl).1
end
end Fm

set_option linter.all false
set_option maxRecDepth 100000
namespace Fm
/-! ### what an inquiry finds is dead -/
section
variable {κ β α : Type} [DecidableEq κ]
theorem fold_put_keys (f : α → κ) (g : List (κ × β) → α → β) (k : κ) : ∀ (l : List α) (d : List (κ × β)), k ∈ keys (l.foldl (fun d x => dput d (f x) (g d x)) d) ↔ k ∈ keys d ∨ ∃ x ∈ l, f x = k
  | [], d => by simp
  | x :: l, d => by
    rw [List.foldl_cons, fold_put_keys f g k l, mem_keys_dput]
    constructor
    · rintro ((rfl | h) | ⟨y, hy, e⟩)
      · exact .inr ⟨x, List.mem_cons_self .., rfl⟩
      · exact .inl h
      · exact .inr ⟨y, List.mem_cons_of_mem _ hy, e⟩
    · rintro (h | ⟨y, hy, e⟩)
      · exact .inl (.inr h)
      · rcases List.mem_cons.mp hy with rfl | hy
        · exact .inl (.inl e.symm)
        · exact .inr ⟨y, hy, e⟩
theorem fold_put_get (f : α → κ) (g : α → β) (k : κ) (v : β) : ∀ (l : List α) (d : List (κ × β)), dget (l.foldl (fun d x => dput d (f x) (g x)) d) k = some v → (∃ x ∈ l, f x = k ∧ g x = v) ∨ dget d k = some v
  | [], d, h => .inr h
  | x :: l, d, h => by
    rw [List.foldl_cons] at h
    rcases fold_put_get f g k v l _ h with ⟨y, hy, e⟩ | h
    · exact .inl ⟨y, List.mem_cons_of_mem _ hy, e⟩
    · rw [dget_dput] at h
      split at h
      · rename_i c
        exact .inl ⟨x, List.mem_cons_self .., c.symm, Option.some.inj h⟩
      · exact .inr h
end
theorem fold_add (b : Th) : ∀ (l : List (Th × Int)) (d : List (Th × Int)), (dget (l.foldl (fun d x => dput d x.1 ((dget d x.1).getD 0 + x.2)) d) b).getD 0 = (dget d b).getD 0 + (l.map fun x => if x.1 = b then x.2 else 0).sum
  | [], d => by simp
  | x :: l, d => by
    rw [List.foldl_cons, fold_add b l, dget_dput, List.map_cons, List.sum_cons]
    by_cases e : b = x.1
    · rw [if_pos e, if_pos e.symm, e]
      show (dget d x.1).getD 0 + x.2 + _ = _
      omega
    · rw [if_neg e, if_neg (fun z => e z.symm)]
      omega
theorem sum_flat {α β : Type} (f : α → List β) (g : β → Int) : ∀ l : List α, ((l.flatMap f).map g).sum = (l.map fun x => ((f x).map g).sum).sum
  | [] => rfl
  | x :: l => by rw [List.flatMap_cons, sum_app, sum_flat f g l, List.map_cons, List.sum_cons]
theorem sum_pick {α : Type} [DecidableEq α] (f : α → Int) (b : α) : ∀ l : List α, l.Nodup → (l.map fun x => if x = b then f x else 0).sum = if b ∈ l then f b else 0
  | [], _ => by rw [if_neg (fun z => nomatch z)]; rfl
  | x :: l, nd => by
    have nd' := List.nodup_cons.mp nd
    rw [List.map_cons, List.sum_cons, sum_pick f b l nd'.2]
    by_cases e : x = b
    · subst e
      rw [if_pos rfl, if_neg nd'.1, if_pos (List.mem_cons_self ..)]
      omega
    · rw [if_neg e]
      by_cases c : b ∈ l
      · rw [if_pos c, if_pos (List.mem_cons_of_mem _ c)]; omega
      · rw [if_neg c, if_neg]
        · rfl
        · intro z
          rcases List.mem_cons.mp z with z | z
          · exact e z.symm
          · exact c z
theorem sum_split {α : Type} (f : α → Int) (p : α → Bool) : ∀ l : List α, (l.map f).sum = ((l.filter p).map f).sum + ((l.filter fun x => !p x).map f).sum
  | [] => rfl
  | x :: l => by
    have ih := sum_split f p l
    rw [List.map_cons, List.sum_cons, ih]
    rcases e : p x with _ | _
    · rw [List.filter_cons_of_neg (by simp [e]), List.filter_cons_of_pos (by simp [e]), List.map_cons, List.sum_cons]; omega
    · rw [List.filter_cons_of_pos e, List.filter_cons_of_neg (by simp [e]), List.map_cons, List.sum_cons]; omega
theorem mem_hss {n : Nat} {h : Int} : h ∈ houses n ↔ 0 ≤ h ∧ h < (n : Int) := by
  unfold houses
  constructor
  · intro z
    obtain ⟨k, hk, rfl⟩ := List.mem_map.mp z
    have := List.mem_range.mp hk
    exact ⟨by omega, by omega⟩
  · intro ⟨h1, h2⟩
    exact List.mem_map.mpr ⟨h.toNat, List.mem_range.mpr (by omega), by omega⟩
theorem hs_map (hs : List Hs) : (houses hs.length).map (atH hs) = hs := by
  refine List.ext_getElem (by simp [houses]) fun i h1 h2 => ?_
  simp only [houses, List.getElem_map, List.getElem_range]
  unfold atH
  rw [List.getD_eq_getElem?_getD, Int.toNat_natCast, List.getElem?_eq_getElem h2]
  rfl
theorem RR_eq (hs : List Hs) (b : Th) : RR hs b = ((houses hs.length).map fun j => recW (atH hs j) b).sum := by
  unfold RR
  conv => lhs; rw [← hs_map hs, List.map_map]
  rfl
/-- the states of some houses -/
def stOf (hs : List Hs) (hl : List Int) : Sts := hl.map fun h => (h, (atH hs h).state h)
section
variable {hs : List Hs} {ls : List Lt} {hl : List Int}
theorem things_of_st {x : Th × Int × List Th} (hx : x ∈ allThings (stOf hs hl)) : x.1.1 ∈ hl ∧ x.1.2 ∈ keys (atH hs x.1.1).holding ∧ x.2.1 = outW (atH hs x.1.1) x.1.2 ∧ x.2.2 = sortT ((dget (atH hs x.1.1).holding x.1.2).getD []) := by
  obtain ⟨e, he, hx⟩ := List.mem_flatMap.mp hx
  obtain ⟨h, hh, rfl⟩ := List.mem_map.mp he
  obtain ⟨n, hn, rfl⟩ := List.mem_map.mp hx
  exact ⟨hh, mem_sortI.mp hn, rfl, rfl⟩
theorem st_of_things {b : Th} (h1 : b.1 ∈ hl) (h2 : b.2 ∈ keys (atH hs b.1).holding) : (b, outW (atH hs b.1) b.2, sortT ((dget (atH hs b.1).holding b.2).getD [])) ∈ allThings (stOf hs hl) :=
  List.mem_flatMap.mpr ⟨(b.1, (atH hs b.1).state b.1), List.mem_map.mpr ⟨b.1, h1, rfl⟩, List.mem_map.mpr ⟨b.2, mem_sortI.mpr h2, rfl⟩⟩
theorem holds_key {b : Th} : b ∈ keys (holdsOf (stOf hs hl)) ↔ b.1 ∈ hl ∧ b.2 ∈ keys (atH hs b.1).holding := by
  unfold holdsOf
  rw [fold_put_keys (fun x : Th × Int × List Th => x.1) (fun _ x => x.2.2) b]
  constructor
  · rintro (z | ⟨x, hx, rfl⟩)
    · cases z
    · exact ⟨(things_of_st hx).1, (things_of_st hx).2.1⟩
  · intro ⟨h1, h2⟩
    exact .inr ⟨_, st_of_things h1 h2, rfl⟩
theorem outs_key {b : Th} : b ∈ keys (outsOf (stOf hs hl)) ↔ b.1 ∈ hl ∧ b.2 ∈ keys (atH hs b.1).holding := by
  unfold outsOf
  rw [fold_put_keys (fun x : Th × Int × List Th => x.1) (fun _ x => x.2.1) b]
  constructor
  · rintro (z | ⟨x, hx, rfl⟩)
    · cases z
    · exact ⟨(things_of_st hx).1, (things_of_st hx).2.1⟩
  · intro ⟨h1, h2⟩
    exact .inr ⟨_, st_of_things h1 h2, rfl⟩
theorem holds_get {b : Th} {ts : List Th} (e : dget (holdsOf (stOf hs hl)) b = some ts) : ts = sortT ((dget (atH hs b.1).holding b.2).getD []) := by
  rcases fold_put_get (fun x : Th × Int × List Th => x.1) (fun x => x.2.2) b ts _ _ e with ⟨x, hx, rfl, rfl⟩ | z
  · exact (things_of_st hx).2.2.2
  · cases z
theorem outs_get {b : Th} {w : Int} (e : dget (outsOf (stOf hs hl)) b = some w) : w = outW (atH hs b.1) b.2 := by
  rcases fold_put_get (fun x : Th × Int × List Th => x.1) (fun x => x.2.1) b w _ _ e with ⟨x, hx, rfl, rfl⟩ | z
  · exact (things_of_st hx).2.2.1
  · cases z
theorem recs_sum {i : Int} {S : Hs} (h : HL i S) (b : Th) : ((S.state i).recs.map fun x => if x.1 = b then x.2 else 0).sum = recW S b := by
  show (((sortT (keys S.recs)).map fun t => (t, (dget S.recs t).getD 0)).map fun x => if x.1 = b then x.2 else 0).sum = _
  rw [List.map_map]
  show ((sortT (keys S.recs)).map fun t => if t = b then recW S t else 0).sum = _
  have nd : (sortT (keys S.recs)).Nodup := (List.mergeSort_perm _ leT).nodup_iff.mpr h.rn
  rw [sum_pick (recW S) b _ nd]
  by_cases c : b ∈ keys S.recs
  · rw [if_pos (mem_sortT.mpr c)]
  · rw [if_neg (fun z => c (mem_sortT.mp z))]
    unfold recW
    rw [dget_none.mpr c]
    rfl
theorem recorded_sum (c : Core hs ls) (hi : ∀ h ∈ hl, isH hs h) (b : Th) : (dget (recorded (stOf hs hl)) b).getD 0 = (hl.map fun j => recW (atH hs j) b).sum := by
  unfold recorded
  rw [fold_add, sum_flat]
  show 0 + _ = _
  unfold stOf
  rw [List.map_map]
  have : (hl.map ((fun x : Int × StD => (x.2.recs.map fun x => if x.1 = b then x.2 else 0).sum) ∘ fun h => (h, (atH hs h).state h))) = hl.map fun j => recW (atH hs j) b :=
    List.map_congr_left fun h hh => recs_sum (c.hl h (hi h hh)) b
  rw [this]
  omega
theorem root_hand {h : Int} (hh : h ∈ hl) {b : Th} (hb : b ∈ (atH hs h).hand) : b ∈ rootsOf (stOf hs hl) := by
  have h0 : b ∈ (((stOf hs hl).flatMap fun e => e.2.hand).foldl hput []) := mem_foldl_hput.mpr (.inr (List.mem_flatMap.mpr ⟨(h, (atH hs h).state h), List.mem_map.mpr ⟨h, hh, rfl⟩, mem_sortT.mpr hb⟩))
  unfold rootsOf
  revert h0
  generalize ((stOf hs hl).flatMap fun e => e.2.hand).foldl hput [] = acc
  generalize outsOf (stOf hs hl) = os
  intro h0
  induction os generalizing acc with
  | nil => exact h0
  | cons e os ih =>
    rw [List.foldl_cons]
    refine ih _ ?_
    split
    · exact mem_hput.mpr (.inr h0)
    · exact h0
theorem root_out {b : Th} {w : Int} (e : dget (outsOf (stOf hs hl)) b = some w) (hn : b ∉ rootsOf (stOf hs hl)) : w = (dget (recorded (stOf hs hl)) b).getD 0 := by
  refine Classical.byContradiction fun ne => hn ?_
  have hm := dget_mem e
  unfold rootsOf
  revert hm
  generalize ((stOf hs hl).flatMap fun e => e.2.hand).foldl hput [] = acc
  generalize outsOf (stOf hs hl) = os
  have keep : ∀ (os : List (Th × Int)) (acc : List Th), b ∈ acc → b ∈ os.foldl (fun r e => if e.2 ≠ (dget (recorded (stOf hs hl)) e.1).getD 0 then hput r e.1 else r) acc := by
    intro os
    induction os with
    | nil => exact fun _ h => h
    | cons e os ih =>
      intro acc h
      rw [List.foldl_cons]
      refine ih _ ?_
      split
      · exact mem_hput.mpr (.inr h)
      · exact h
  intro hm
  induction os generalizing acc with
  | nil => cases hm
  | cons e os ih =>
    rw [List.foldl_cons]
    rcases List.mem_cons.mp hm with rfl | hm
    · refine keep _ _ ?_
      rw [if_pos ne]
      exact mem_hput.mpr (.inl rfl)
    · exact ih _ hm
theorem wt_abt {l : Lt} {b : Th} (hk : LtOk hs ls l) (hb : abt l b) : 1 ≤ wt b l := by
  obtain ⟨_, _, h3⟩ := hk
  rcases hb with ⟨w, e⟩ | ⟨g, e⟩
  · rw [e] at h3; rw [wt_hold e, if_pos rfl]; exact h3.2
  · rw [wt_pass e, if_pos rfl]; exact Int.le_refl 1
theorem wt_zl {l : Lt} {j : Int} {b : Th} (hk : LtOk hs ls l) (hb : Zl j b l) : 1 ≤ wt b l := by
  rcases hb with ⟨_, _, g, e⟩ | ⟨_, w, e⟩
  · exact wt_abt hk (.inr ⟨g, e⟩)
  · obtain ⟨_, _, h3⟩ := hk
    rw [e] at h3; rw [wt_more e, if_pos rfl]; exact h3.2.2
theorem dead_found (c : Core hs ls) (p : Int → Bool) : Dead hs ls fun b => b ∈ unreached (stOf hs ((houses hs.length).filter p)) := by
  have hi : ∀ h ∈ (houses hs.length).filter p, isH hs h := fun h hh => mem_hss.mp (List.mem_filter.mp hh).1
  have hin : ∀ h, isH hs h → p h = true → h ∈ (houses hs.length).filter p := fun h h1 h2 => List.mem_filter.mpr ⟨mem_hss.mpr h1, h2⟩
  generalize ehl : (houses hs.length).filter p = hl at hi hin ⊢
  have hG : ∀ b, b ∈ unreached (stOf hs hl) → b.1 ∈ hl ∧ b.2 ∈ keys (atH hs b.1).holding ∧ b ∉ reachedFrom (rootsOf (stOf hs hl)) (holdsOf (stOf hs hl)) ∧ b ∉ rootsOf (stOf hs hl) ∧ LL ls b = 0 ∧ ∀ j, isH hs j → j ∉ hl → b ∉ keys (atH hs j).recs := by
    intro b hb
    obtain ⟨hk, hr⟩ := List.mem_filter.mp (mem_sortT.mp hb)
    have hr : b ∉ reachedFrom (rootsOf (stOf hs hl)) (holdsOf (stOf hs hl)) := of_decide_eq_true hr
    obtain ⟨h1, h2⟩ := holds_key.mp hk
    have hro : b ∉ rootsOf (stOf hs hl) := fun z => hr (reachedFrom_start b z hk)
    obtain ⟨w, ew⟩ := dget_some (outs_key.mpr ⟨h1, h2⟩)
    have e1 := root_out ew hro
    rw [outs_get ew, c.bal b ⟨hi _ h1, h2⟩, recorded_sum c hi, RR_eq, sum_split _ p, ehl] at e1
    have nl : ∀ l ∈ ls, 0 ≤ wt b l := fun l hl => (c.lt l hl).wn b
    have nr : ∀ j ∈ (houses hs.length).filter fun x => !p x, 0 ≤ recW (atH hs j) b := fun j hj => (c.hl j (mem_hss.mp (List.mem_filter.mp hj).1)).recWn b
    have s1 : 0 ≤ LL ls b := sum_nonneg nl
    have s2 := sum_nonneg nr
    have l0 : LL ls b = 0 := by omega
    refine ⟨h1, h2, hr, hro, l0, fun j hj hn z => ?_⟩
    have pj : p j = false := by
      rcases q : p j with _ | _
      · rfl
      · exact absurd (hin j hj q) hn
    have := sum_ge nr (List.mem_filter.mpr ⟨mem_hss.mpr hj, by simp [pj]⟩ : j ∈ (houses hs.length).filter fun x => !p x)
    have j0 := (c.hl j hj).recWn b
    obtain ⟨w, ew⟩ := dget_some z
    have : w = 0 := by
      have : recW (atH hs j) b = w := by unfold recW; rw [ew]; rfl
      omega
    subst this
    obtain ⟨l, hl, hz⟩ := c.zr j hj b ew
    have g1 := wt_zl (c.lt l hl) hz
    have g2 : wt b l ≤ LL ls b := sum_ge nl hl
    omega
  exact {
    d1 := fun j hj b hb g => by
      obtain ⟨h1, h2, h3, h4, h5, h6⟩ := hG b g
      by_cases q : j ∈ hl
      · exact h4 (root_hand q hb)
      · exact h6 j hj q ((c.hl j hj).far b hb fun z => q (by rw [← z]; exact h1))
    d2 := fun l hl b hb g => by
      obtain ⟨h1, h2, h3, h4, h5, h6⟩ := hG b g
      have g1 := wt_abt (c.lt l hl) hb
      have g2 : wt b l ≤ LL ls b := sum_ge (fun l hl => (c.lt l hl).wn b) hl
      omega
    d3 := fun x hx nx b hb g => by
      obtain ⟨h1, h2, h3, h4, h5, h6⟩ := hG b g
      by_cases q : x.1 ∈ hl
      · have xk : x ∈ keys (holdsOf (stOf hs hl)) := holds_key.mpr ⟨q, hx.2⟩
        have xr : x ∈ reachedFrom (rootsOf (stOf hs hl)) (holdsOf (stOf hs hl)) := Classical.byContradiction fun z => nx (mem_sortT.mpr (List.mem_filter.mpr ⟨xk, decide_eq_true z⟩))
        obtain ⟨ts, ets⟩ := dget_some xk
        obtain ⟨l, el, hl⟩ := hb
        refine h3 (reachedFrom_closed x xr ts ets b ?_ (holds_key.mpr ⟨h1, h2⟩))
        rw [holds_get ets, el]
        exact mem_sortT.mpr hl
      · obtain ⟨l, el, hl⟩ := hb
        exact h6 x.1 hx.1 q ((c.hl _ hx.1).inf _ _ el b hl fun z => q (by rw [← z]; exact h1))
    d4 := fun b g => by
      obtain ⟨h1, h2, _⟩ := hG b g
      exact c.made ⟨hi _ h1, h2⟩ }
end
end Fm

set_option linter.all false
set_option maxRecDepth 100000
namespace Fm
def lts (M : Wd) : List Lt := M.lying.map (·.2)
/-- numbers of letters -/
structure NK (M : Wd) : Prop where
  nd : (keys M.lying).Nodup
  le : ∀ n ∈ keys M.lying, 1 ≤ n ∧ n ≤ M.last
  l0 : 0 ≤ M.last
theorem put_eq {M : Wd} (k : NK M) (l : Lt) : (M.put l).lying = M.lying ++ [(M.last + 1, l)] :=
  dput_out fun z => by have := k.le _ z; omega
theorem NK.put {M : Wd} (k : NK M) (l : Lt) : NK (M.put l) where
  nd := nodup_dput k.nd
  le := fun n z => by
    show 1 ≤ n ∧ n ≤ M.last + 1
    rcases mem_keys_dput.mp z with rfl | z
    · have := k.l0; omega
    · have := k.le n z; omega
  l0 := by show 0 ≤ M.last + 1; have := k.l0; omega
structure Puts (M M' : Wd) (ls : List Lt) : Prop where
  nk : NK M'
  lt : lts M' = lts M ++ ls
  hs : M'.hs = M.hs
  as_ : M'.asked = M.asked
  an : M'.answers = M.answers
  dn : M'.done = M.done
  sh : M'.share = M.share
  la : M'.last = M.last + (ls.length : Int)
  me : ∀ e ∈ M'.lying, e ∈ M.lying ∨ M.last < e.1 ∧ e.2 ∈ ls
  ly : M'.lying.length = M.lying.length + ls.length
theorem puts_ok : ∀ (ls : List Lt) {M : Wd}, NK M → Puts M (M.puts ls) ls
  | [], M, k => ⟨k, (List.append_nil _).symm, rfl, rfl, rfl, rfl, rfl, (Int.add_zero _).symm, fun e he => .inl he, rfl⟩
  | l :: ls, M, k => by
    have h := puts_ok ls (k.put l)
    have e := put_eq k l
    have el : lts (M.put l) = lts M ++ [l] := by unfold lts; rw [e, List.map_append]; rfl
    refine ⟨h.nk, ?_, h.hs, h.as_, h.an, h.dn, h.sh, ?_, fun x hx => ?_, ?_⟩
    · show lts ((M.put l).puts ls) = _
      rw [h.lt, el, List.append_assoc]
      rfl
    · show ((M.put l).puts ls).last = _
      rw [h.la, List.length_cons]
      show M.last + 1 + (ls.length : Int) = _
      omega
    · rcases h.me x hx with hx | ⟨h1, h2⟩
      · rw [e] at hx
        rcases List.mem_append.mp hx with hx | hx
        · exact .inl hx
        · rcases List.mem_singleton.mp hx with rfl
          exact .inr ⟨by show M.last < M.last + 1; omega, List.mem_cons_self ..⟩
      · have h1 : M.last + 1 < x.1 := h1
        exact .inr ⟨by omega, List.mem_cons_of_mem _ h2⟩
    · show ((M.put l).puts ls).lying.length = _
      rw [h.ly, e, List.length_append, List.length_cons]
      simp only [List.length_cons, List.length_nil]
      omega
/-- some letters are taken out -/
structure Less (M M1 : Wd) (out : List Lt) : Prop where
  nk : NK M1
  pm : (lts M).Perm (out ++ lts M1)
  hs : M1.hs = M.hs
  as_ : M1.asked = M.asked
  an : M1.answers = M.answers
  dn : M1.done = M.done
  sh : M1.share = M.share
  la : M1.last = M.last
  me : ∀ e ∈ M1.lying, e ∈ M.lying
  ly : M1.lying.length ≤ M.lying.length
theorem less_refl {M : Wd} (k : NK M) : Less M M [] := ⟨k, List.Perm.refl _, rfl, rfl, rfl, rfl, rfl, rfl, fun e he => he, Nat.le_refl _⟩
theorem drop_perm {n : Int} {l : Lt} : ∀ {d : List (Int × Lt)}, (keys d).Nodup → dget d n = some l → (d.map (·.2)).Perm (l :: (ddrop d n).map (·.2))
  | [], _, h => nomatch h
  | e :: d, nd, h => by
    have nd' := List.nodup_cons.mp nd
    rw [dget_cons] at h
    by_cases q : e.1 = n
    · rw [if_pos q] at h
      cases h
      have : ddrop (e :: d) n = d := by
        unfold ddrop
        rw [List.filter_cons_of_neg (by simp [q])]
        exact List.filter_eq_self.mpr fun x hx => decide_eq_true fun z => nd'.1 (List.mem_map.mpr ⟨x, hx, z.trans q.symm⟩)
      rw [this]
      exact List.Perm.refl _
    · rw [if_neg q] at h
      have : ddrop (e :: d) n = e :: ddrop d n := by
        unfold ddrop
        rw [List.filter_cons_of_pos (by simp [q])]
      rw [this]
      exact ((drop_perm nd'.2 h).cons e.2).trans (List.Perm.swap ..)
theorem less_drop {M : Wd} (k : NK M) {n : Int} {l : Lt} (e : dget M.lying n = some l) : Less M { M with lying := ddrop M.lying n } [l] where
  nk := ⟨nodup_ddrop k.nd, fun m z => k.le m (by
    have z : m ∈ keys (ddrop M.lying n) := z
    rw [keys_ddrop] at z
    exact (List.mem_filter.mp z).1), k.l0⟩
  pm := drop_perm k.nd e
  hs := rfl
  as_ := rfl
  an := rfl
  dn := rfl
  sh := rfl
  la := rfl
  me := fun e he => (mem_ddrop he).1
  ly := List.length_filter_le ..
/-- a letter of an inquiry -/
def inq (l : Lt) : Prop := match l.ab with
  | .ask _ _ => True
  | .ans _ _ => True
  | _ => False
def oneL (q : Int) (l : Lt) : Option Int := match l.ab with
  | .ask q' t => if q' = q ∧ t = 1 then some l.goal else none
  | .ans q' t => if q' = q ∧ t = 1 then some l.sender else none
  | _ => none
theorem oneL_none {q : Int} {l : Lt} (h : ¬ inq l) : oneL q l = none := by
  unfold inq at h
  unfold oneL
  revert h
  rcases l.ab with ⟨q, t⟩ | ⟨q, t⟩ | ⟨c', w⟩ | ⟨c', g⟩ | ⟨c', w⟩ | ⟨c', w⟩ | ts <;> intro h <;> first | rfl | exact absurd trivial h
def WC (M : Wd) : Prop := Core M.hs (lts M) ∧ NK M ∧ 1 ≤ M.share
structure Tr (M M' : Wd) : Prop where
  dead : ∀ G, Dead M.hs (lts M) G → Dead M'.hs (lts M') G
  len : M'.hs.length = M.hs.length
  tk : ∀ j, isH M.hs j → atH M'.hs j = atH M.hs j ∨ (atH M.hs j).ticks < (atH M'.hs j).ticks
/-- a step that has nothing to do with inquiries -/
structure TA (M M' : Wd) : Prop where
  tr : Tr M M'
  as_ : M'.asked = M.asked
  an : M'.answers = M.answers
  dn : M'.done = M.done
  me : ∀ e ∈ M'.lying, e ∈ M.lying ∨ M.last < e.1 ∧ ¬ inq e.2
  one : ∀ q, ∃ a, ((lts M).filterMap (oneL q)).Perm (a ++ (lts M').filterMap (oneL q))
theorem one_less {M M1 : Wd} {out : List Lt} (L : Less M M1 out) {M' : Wd} {nw : List Lt} (e : lts M' = lts M1 ++ nw) (nn : ∀ l ∈ nw, ¬ inq l) (q : Int) :
    ((lts M).filterMap (oneL q)).Perm (out.filterMap (oneL q) ++ (lts M').filterMap (oneL q)) := by
  have : nw.filterMap (oneL q) = [] := List.filterMap_eq_nil_iff.mpr fun l hl => oneL_none (nn l hl)
  rw [e, List.filterMap_append, this, List.append_nil, ← List.filterMap_append]
  exact L.pm.filterMap _
theorem step_mv {M M1 : Wd} {h : Int} {S' : Hs} {out nw : List Lt} (w : WC M) (L : Less M M1 out) (m : Mv M.hs (lts M1) h S' out nw) (nn : ∀ l ∈ nw, ¬ inq l) (tk : (atH M.hs h).ticks < S'.ticks) :
    WC ((M1.set h S').puts nw) ∧ TA M ((M1.set h S').puts nw) := by
  have k1 : NK (M1.set h S') := ⟨L.nk.nd, L.nk.le, L.nk.l0⟩
  have p := puts_ok nw k1
  have e1 : ((M1.set h S').puts nw).hs = setH M.hs h S' := by rw [p.hs, ← L.hs]; rfl
  have e2 : lts ((M1.set h S').puts nw) = lts M1 ++ nw := p.lt
  have c := w.1.perm L.pm
  refine ⟨⟨by rw [e1, e2]; exact m.core c, p.nk, by rw [p.sh]; show 1 ≤ M1.share; rw [L.sh]; exact w.2.2⟩, ⟨fun G d => ?_, ?_, fun j hj => ?_⟩, p.as_.trans L.as_, p.an.trans L.an, p.dn.trans L.dn, fun e he => ?_, fun q => ⟨_, one_less L e2 nn q⟩⟩
  · rw [e1, e2]
    exact m.dead c (d.perm fun l hl => L.pm.mem_iff.mpr hl)
  · rw [e1]; exact List.length_set ..
  · rw [e1, atH_set m.ih hj]
    by_cases q : j = h
    · rw [if_pos q, q]; exact .inr tk
    · rw [if_neg q]; exact .inl rfl
  · rcases p.me e he with he | ⟨h1, h2⟩
    · exact .inl (L.me e he)
    · exact .inr ⟨by have h1 : M1.last < e.1 := h1; rw [L.la] at h1; exact h1, nn _ h2⟩
theorem step_only {M M1 : Wd} {h : Int} {p : Int → Bool} {out : List Lt} (w : WC M) (L : Less M M1 out) (ih : isH M.hs h) (ho : ∀ l ∈ out, isCtl l)
    (gone : ∀ n ∈ keys (atH M.hs h).holding, p n = false → (∀ j, isH M.hs j → (h, n) ∉ (atH M.hs j).hand) ∧ (∀ l ∈ lts M, ¬ abt l (h, n)) ∧ ∀ x, There M.hs x → (x.1 = h → p x.2 = true) → Hd (atH M.hs x.1) x.2 (h, n) → x.1 ≠ h ∧ Dd M.hs (lts M) x) :
    WC (M1.giveBack h ((atH M.hs h).only p)) ∧ TA M (M1.giveBack h ((atH M.hs h).only p)) := by
  have c0 : Core M.hs (lts M1) := by
    have := (w.1.perm L.pm).ctl (nw := []) ho fun l hl => nomatch hl
    rw [List.append_nil] at this
    exact this
  have d0 : ∀ G, Dead M.hs (lts M) G → Dead M.hs (lts M1) G := fun G d => d.perm fun l hl => L.pm.mem_iff.mpr (List.mem_append.mpr (.inr hl))
  have c1 : Core (setH M.hs h ((atH M.hs h).only p)) (lts M1) := c0.only ih fun n hn pn => by
    obtain ⟨g1, g2, g3⟩ := gone n hn pn
    exact ⟨g1, fun l hl => g2 l (L.pm.mem_iff.mpr (List.mem_append.mpr (.inr hl))), fun x hx h2 hb => ⟨(g3 x hx h2 hb).1, (g3 x hx h2 hb).2.imp fun G z => ⟨d0 G z.1, z.2⟩⟩⟩
  have ih1 : isH (setH M.hs h ((atH M.hs h).only p)) h := isH_set.mpr ih
  have m := mv_back c1 ih1
  rw [atH_self ih] at m
  have k1 : NK (M1.set h ((atH M.hs h).only p).givenBack) := ⟨L.nk.nd, L.nk.le, L.nk.l0⟩
  have pp := puts_ok (backLts h ((atH M.hs h).only p).back) k1
  have e1 : (M1.giveBack h ((atH M.hs h).only p)).hs = setH M.hs h ((atH M.hs h).only p).givenBack := by
    show ((M1.set h ((atH M.hs h).only p).givenBack).puts _).hs = _
    rw [pp.hs, ← L.hs]; rfl
  have e2 : lts (M1.giveBack h ((atH M.hs h).only p)) = lts M1 ++ backLts h ((atH M.hs h).only p).back := pp.lt
  have e3 : setH (setH M.hs h ((atH M.hs h).only p)) h ((atH M.hs h).only p).givenBack = setH M.hs h ((atH M.hs h).only p).givenBack := setH_setH
  have nn : ∀ l ∈ backLts h ((atH M.hs h).only p).back, ¬ inq l := by
    intro l hl
    obtain ⟨e, _, rfl⟩ := List.mem_map.mp hl
    exact fun z => z
  refine ⟨⟨by rw [e1, e2, ← e3]; exact m.core c1, pp.nk, by show 1 ≤ ((M1.set h _).puts _).share; rw [pp.sh]; show 1 ≤ M1.share; rw [L.sh]; exact w.2.2⟩, ⟨fun G d => ?_, ?_, fun j hj => ?_⟩, pp.as_.trans L.as_, pp.an.trans L.an, pp.dn.trans L.dn, fun e he => ?_, fun q => ⟨_, one_less L e2 nn q⟩⟩
  · rw [e1, e2, ← e3]
    exact m.dead c1 ((d0 G d).only ih)
  · rw [e1]; exact List.length_set ..
  · rw [e1, atH_set ih hj]
    by_cases q : j = h
    · rw [if_pos q, q]; right; show (atH M.hs h).ticks < (atH M.hs h).ticks + 1; omega
    · rw [if_neg q]; exact .inl rfl
  · rcases pp.me e he with he | ⟨h1, h2⟩
    · exact .inl (L.me e he)
    · exact .inr ⟨by have h1 : M1.last < e.1 := h1; rw [L.la] at h1; exact h1, nn _ h2⟩
/-! ### rows that are no letters and no inquiries -/
def Good (M M' : Wd) : Prop := WC M' ∧ TA M M'
theorem good_make {M M' : Wd} {h : Int} {t : Th} (w : WC M) (e : M.make h = .ok (M', t)) : Good M M' := by
  unfold Wd.make at e
  split at e
  · rename_i q
    cases e
    have ih := isH_iff.mp q
    exact step_mv w (less_refl w.2.1) (mv_make w.1 ih) (fun l hl => nomatch hl) (by show _ < (atH M.hs h).ticks + 1; omega)
  · cases e
theorem good_act {M M' : Wd} {h : Int} {f : Hs → Except Er Hs} (w : WC M) (e : M.act h f = .ok M')
    (hf : ∀ S', isH M.hs h → f (atH M.hs h) = .ok S' → Mv M.hs (lts M) h S' [] [] ∧ (atH M.hs h).ticks < S'.ticks) : Good M M' := by
  unfold Wd.act at e
  split at e
  · rename_i q
    split at e
    · rename_i S' es
      cases e
      have ih := isH_iff.mp q
      obtain ⟨m, t⟩ := hf S' ih es
      exact step_mv w (less_refl w.2.1) m (fun l hl => nomatch hl) t
    · cases e
  · cases e
theorem good_hold {M M' : Wd} {h : Int} {a b : Th} (w : WC M) (e : M.hold h a b = .ok M') : Good M M' :=
  good_act w e fun S' ih es => ⟨mv_hold w.1 ih es, by
    unfold Hs.hold at es
    split at es
    · split at es
      · split at es
        · cases es; show _ < (atH M.hs h).ticks + 1; omega
        · cases es
      · cases es
    · cases es⟩
theorem good_drop {M M' : Wd} {h : Int} {a b : Th} (w : WC M) (e : M.drop h a b = .ok M') : Good M M' :=
  good_act w e fun S' ih es => ⟨mv_drop w.1 ih es, by
    unfold Hs.drop at es
    split at es
    · cases es
    · split at es
      · cases es; show _ < (atH M.hs h).ticks + 1; omega
      · cases es⟩
theorem good_take {M M' : Wd} {h : Int} {a b : Th} (w : WC M) (e : M.take h a b = .ok M') : Good M M' :=
  good_act w e fun S' ih es => ⟨mv_take w.1 ih es, by
    unfold Hs.take at es
    split at es
    · cases es
    · split at es
      · cases es; show _ < (atH M.hs h).ticks + 1; omega
      · cases es⟩
theorem good_free {M M' : Wd} {h : Int} {b : Th} (w : WC M) (e : M.free h b = .ok M') : Good M M' :=
  good_act w e fun S' ih es => ⟨mv_free w.1 ih es, by
    unfold Hs.free at es
    split at es
    · cases es; show _ < (atH M.hs h).ticks + 1; omega
    · cases es⟩
theorem good_send {M M' : Wd} {h g : Int} {b : Th} (w : WC M) (e : M.send h g b = .ok M') : Good M M' := by
  unfold Wd.send at e
  split at e
  · rename_i q
    split at e
    · rename_i qg
      have ih := isH_iff.mp q
      have ig := isH_iff.mp qg
      split at e
      · cases e
      · rename_i S' wv es
        cases e
        have es : (atH M.hs h).part h b M.share = .ok (S', wv) := es
        unfold Hs.part at es
        split at es
        · rename_i hb
          split at es
          · rename_i eb
            cases es
            have hl : (M.at h).isLast b = false := by
              unfold Hs.isLast
              rw [show dget (M.at h).recs b = none from (w.1.hl h ih).rec0 eb]
              rfl
            rw [hl]
            exact step_mv w (less_refl w.2.1) (mv_send_near w.1 ih ig hb eb w.2.2) (fun l hl => by rcases List.mem_singleton.mp hl with rfl; exact fun z => z) (by show _ < (atH M.hs h).ticks + 1; omega)
          · rename_i eb
            split at es
            · cases es
            · rename_i h0
              cases es
              exact step_mv w (less_refl w.2.1) (mv_send_far w.1 ih ig hb eb h0 _) (fun l hl => by
                rcases List.mem_singleton.mp hl with rfl
                split <;> exact fun z => z) (by show _ < (atH M.hs h).ticks + 1; omega)
        · cases es
    · cases e
  · cases e
theorem good_clean {M M' : Wd} {h : Int} {ns : List Int} (w : WC M) (e : M.clean h = .ok (M', ns)) : Good M M' := by
  unfold Wd.clean at e
  split at e
  · rename_i q
    cases e
    have ih := isH_iff.mp q
    refine step_only (p := fun n => decide (n ∈ (atH M.hs h).kept h)) w (less_refl w.2.1) ih (fun l hl => nomatch hl) fun n hn pn => ?_
    have pn : n ∉ (atH M.hs h).kept h := of_decide_eq_false pn
    have hL := w.1.hl h ih
    have hs : ∀ m ∈ (atH M.hs h).starts h, m ∈ (atH M.hs h).kept h := nearReach_start
    have hc : ∀ m ∈ (atH M.hs h).kept h, ∀ k ∈ nsucc (atH M.hs h).holding h m, k ∈ (atH M.hs h).kept h := nearReach_closed
    have o0 : outW (atH M.hs h) n ≤ 0 := by
      refine Int.not_lt.mp fun z => pn (hs n (List.mem_append.mpr (.inr ?_)))
      rcases eo : dget (atH M.hs h).outs n with _ | v
      · unfold outW at z; rw [eo] at z; exact absurd z (by decide)
      · have : outW (atH M.hs h) n = v := by unfold outW; rw [eo]; rfl
        exact List.mem_map.mpr ⟨(n, v), List.mem_filter.mpr ⟨dget_mem eo, decide_eq_true (by show v > 0; omega)⟩, rfl⟩
    have b0 := w.1.bal (h, n) ⟨ih, hn⟩
    have b0 : outW (atH M.hs h) n = RR M.hs (h, n) + LL (lts M) (h, n) := b0
    have nl : ∀ l ∈ lts M, 0 ≤ wt (h, n) l := fun l hl => (w.1.lt l hl).wn _
    have nr : ∀ j ∈ houses M.hs.length, 0 ≤ recW (atH M.hs j) (h, n) := fun j hj => (w.1.hl j (mem_hss.mp hj)).recWn _
    have s1 : 0 ≤ LL (lts M) (h, n) := sum_nonneg nl
    have s2 := sum_nonneg nr
    rw [← RR_eq] at s2
    have hrec : ∀ j, isH M.hs j → (h, n) ∉ keys (atH M.hs j).recs := by
      intro j hj z
      have g1 := sum_ge nr (mem_hss.mpr hj)
      rw [← RR_eq] at g1
      have j0 := (w.1.hl j hj).recWn (h, n)
      obtain ⟨v, ev⟩ := dget_some z
      have : v = 0 := by
        have : recW (atH M.hs j) (h, n) = v := by unfold recW; rw [ev]; rfl
        omega
      subst this
      obtain ⟨l, hl, hz⟩ := w.1.zr j hj _ ev
      have g1 := wt_zl (w.1.lt l hl) hz
      have g2 : wt (h, n) l ≤ LL (lts M) (h, n) := sum_ge nl hl
      omega
    refine ⟨fun j hj z => ?_, fun l hl z => ?_, fun x hx hp hb => ?_⟩
    · by_cases e : j = h
      · subst e
        exact pn (hs n (List.mem_append.mpr (.inl (List.mem_map.mpr ⟨(j, n), List.mem_filter.mpr ⟨z, decide_eq_true rfl⟩, rfl⟩))))
      · exact hrec j hj ((w.1.hl j hj).far _ z fun y => e y.symm)
    · have g1 := wt_abt (w.1.lt l hl) z
      have g2 : wt (h, n) l ≤ LL (lts M) (h, n) := sum_ge nl hl
      omega
    · obtain ⟨l, el, hl⟩ := hb
      by_cases e : x.1 = h
      · have hk : x.2 ∈ (atH M.hs h).kept h := of_decide_eq_true (hp e)
        rw [e] at el
        refine absurd (hc _ hk n ?_) pn
        unfold nsucc
        rw [el]
        exact List.mem_map.mpr ⟨(h, n), List.mem_filter.mpr ⟨hl, decide_eq_true rfl⟩, rfl⟩
      · exact absurd ((w.1.hl _ hx.1).inf _ _ el _ hl fun y => e y.symm) (hrec _ hx.1)
  · cases e
/-! ### letters that come -/
theorem good_arr {M : Wd} {n : Int} {l : Lt} (w : WC M) (e : dget M.lying n = some l) (hn : ¬ inq l) : Good M (Wd.arrive { M with lying := ddrop M.lying n } n l).1 := by
  have L := less_drop w.2.1 e
  have c := w.1.perm L.pm
  obtain ⟨is, ih, h3⟩ := c.lt l (List.mem_cons_self ..)
  unfold Wd.arrive
  unfold inq at hn
  rcases el : l.ab with ⟨q, t⟩ | ⟨q, t⟩ | ⟨b, wv⟩ | ⟨b, g⟩ | ⟨b, wv⟩ | ⟨b, wv⟩ | ts
  · rw [el] at hn; exact absurd trivial hn
  · rw [el] at hn; exact absurd trivial hn
  · refine step_mv w L (mv_came c el) (fun l hl => nomatch hl) ?_
    show _ < (((atH M.hs l.goal).came l.goal b wv)).ticks
    unfold Hs.came
    split <;> (show _ < (atH M.hs l.goal).ticks + 1; omega)
  · have m := mv_passed c el w.2.2
    have := step_mv w L m (fun l' hl => by
      split at hl
      · rcases List.mem_singleton.mp hl with rfl; exact fun z => z
      · rcases List.mem_cons.mp hl with rfl | hl
        · exact fun z => z
        · rcases List.mem_singleton.mp hl with rfl; exact fun z => z) (by
      unfold Hs.passed
      split <;> (show _ < (atH M.hs l.goal).ticks + 1; omega))
    show Good M (Wd.passedOn { M with lying := ddrop M.lying n } l.sender l.goal b g).1
    unfold Wd.passedOn
    by_cases y : g = l.goal
    · simp only [if_pos y] at this ⊢
      exact this
    · simp only [if_neg y] at this ⊢
      exact this
  · exact step_mv w L (mv_added c el) (fun l hl => nomatch hl) (by show _ < (atH M.hs l.goal).ticks + 1; omega)
  · exact step_mv w L (mv_given c el) (fun l hl => nomatch hl) (by show _ < (atH M.hs l.goal).ticks + 1; omega)
  · rw [el] at h3
    obtain ⟨G, d, hG⟩ := h3
    have d : Dead M.hs (lts M) G := d.perm fun l hl => L.pm.mem_iff.mp hl
    refine step_only (p := fun n => decide (n ∉ ts.map (·.2))) w L ih (fun l' hl => by rcases List.mem_singleton.mp hl with rfl; unfold isCtl; rw [el]; trivial) fun n hn pn => ?_
    have g : G (l.goal, n) := (hG n).mp (Classical.byContradiction fun z => absurd (decide_eq_true z) (by rw [pn]; decide))
    refine ⟨fun j hj z => d.d1 j hj _ z g, fun l' hl z => d.d2 l' hl _ z g, fun x hx hp hb => ?_⟩
    have gx : G x := Classical.byContradiction fun z => d.d3 x hx z _ hb g
    refine ⟨fun y => ?_, G, d, gx⟩
    have := of_decide_eq_true (hp y)
    exact this ((hG x.2).mpr (by rw [← y]; exact gx))
end Fm

set_option linter.all false
set_option maxRecDepth 100000
namespace Fm
theorem pig : ∀ {l m : List Int}, l.Nodup → (∀ x ∈ l, x ∈ m) → m.length ≤ l.length → ∀ x ∈ m, x ∈ l
  | [], m, _, _, h, x, hx => by
    have : m = [] := List.length_eq_zero_iff.mp (Nat.le_zero.mp h)
    rw [this] at hx
    cases hx
  | a :: l, m, nd, hs, h, x, hx => by
    have nd' := List.nodup_cons.mp nd
    by_cases e : x = a
    · rw [e]; exact List.mem_cons_self ..
    · have ham := hs a (List.mem_cons_self ..)
      refine List.mem_cons_of_mem _ (pig (m := m.erase a) nd'.2 (fun y hy => ?_) ?_ x ((List.mem_erase_of_ne e).mpr hx))
      · exact (List.mem_erase_of_ne (fun z => nd'.1 (by rw [← z]; exact hy))).mpr (hs y (List.mem_cons_of_mem _ hy))
      · rw [List.length_erase_of_mem ham]
        simp only [List.length_cons] at h
        omega
theorem nodup_hss (n : Nat) : (houses n).Nodup := by
  unfold houses
  exact List.Pairwise.map _ (fun a b h z => h (by omega)) List.nodup_range
theorem len_hss (n : Nat) : (houses n).length = n := by simp [houses]
def twoL (q : Int) (l : Lt) : Prop := match l.ab with
  | .ask q' t => q' = q ∧ t ≠ 1
  | .ans q' t => q' = q ∧ t ≠ 1
  | _ => False
theorem twoL.inq {q : Int} {l : Lt} (h : twoL q l) : inq l := by
  unfold twoL at h
  unfold Fm.inq
  revert h
  rcases l.ab with ⟨q, t⟩ | ⟨q, t⟩ | ⟨c', w⟩ | ⟨c', g⟩ | ⟨c', w⟩ | ⟨c', w⟩ | ts <;> intro h <;> first | trivial | exact h.elim
/-- an answer is not behind its time -/
def AOk (M : Wd) (h tk : Int) (st : StD) : Prop := tk ≤ (atH M.hs h).ticks ∧ (tk = (atH M.hs h).ticks → st = (atH M.hs h).state h)
def full (M : Wd) (Q : Inq) : Prop := ∀ h, isH M.hs h → h ∈ keys Q.ticks
def toldBy (p : Int → Bool) (Q : Inq) (n : Nat) : Sts := ((houses n).filter p).filterMap fun h => (dget Q.states h).map fun s => (h, s)
structure QI (M : Wd) (q : Int) (Q : Inq) : Prop where
  ks : keys Q.ticks = keys Q.states
  hs : ∀ h ∈ keys Q.ticks, isH M.hs h
  an : (keys Q.again).Nodup
  ah : ∀ h ∈ keys Q.again, isH M.hs h
  un : ((lts M).filterMap (oneL q) ++ keys Q.ticks).Nodup
  gt : (∃ l ∈ lts M, twoL q l) ∨ Q.again ≠ [] → full M Q
  p0 : ∀ h tk st, dget Q.ticks h = some tk → dget Q.states h = some st → AOk M h tk st
  p2 : full M Q → ∃ P : Int → Prop, (∀ p : Int → Bool, (∀ h, isH M.hs h → p h = true → P h) → Dead M.hs (lts M) fun b => b ∈ unreached (toldBy p Q M.hs.length)) ∧
    ∀ h, isH M.hs h → ¬ P h → ∀ tk, dget Q.ticks h = some tk → tk < (atH M.hs h).ticks ∧
      (∀ e ∈ M.lying, e.2.sender = h → ∀ t, e.2.ab = .ans q t → ∀ tk' st, dget M.answers e.1 = some (tk', st) → tk < tk') ∧ ∀ tk', dget Q.again h = some tk' → tk < tk'
structure IQ (M : Wd) : Prop where
  qi : ∀ q, 1 ≤ q → q ≤ (M.asked.length : Int) → QI M q (M.inqAt q)
  lq : ∀ l ∈ lts M, ∀ q t, l.ab = .ask q t ∨ l.ab = .ans q t → 1 ≤ q ∧ q ≤ (M.asked.length : Int)
  aa : ∀ e ∈ M.lying, ∀ q t, e.2.ab = .ans q t → ∃ tk st, dget M.answers e.1 = some (tk, st) ∧ AOk M e.2.sender tk st
theorem Tr.ok {M M' : Wd} (t : Tr M M') {h tk : Int} {st : StD} (hi : isH M.hs h) (a : AOk M h tk st) : AOk M' h tk st := by
  unfold AOk at *
  rcases t.tk h hi with e | e
  · rw [e]; exact a
  · exact ⟨by have := a.1; omega, fun z => absurd z (by have := a.1; omega)⟩
theorem Tr.mono {M M' : Wd} (t : Tr M M') {h : Int} (hi : isH M.hs h) : (atH M.hs h).ticks ≤ (atH M'.hs h).ticks := by
  rcases t.tk h hi with e | e
  · rw [e]; exact Int.le_refl _
  · omega
theorem Tr.is {M M' : Wd} (t : Tr M M') {h : Int} : isH M'.hs h ↔ isH M.hs h := by unfold isH; rw [t.len]
theorem QI.keep {M M' : Wd} {q : Int} {Q : Inq} (h : QI M q Q) (t : Tr M M') (un' : ((lts M').filterMap (oneL q) ++ keys Q.ticks).Nodup) (two' : (∃ l ∈ lts M', twoL q l) → ∃ l ∈ lts M, twoL q l)
    (lt' : ∀ e ∈ M'.lying, ∀ t, e.2.ab = .ans q t → ∀ tk' st, dget M'.answers e.1 = some (tk', st) → (e ∈ M.lying ∧ dget M.answers e.1 = some (tk', st)) ∨ (atH M.hs e.2.sender).ticks ≤ tk') : QI M' q Q where
  ks := h.ks
  hs := fun x hx => t.is.mpr (h.hs x hx)
  an := h.an
  ah := fun x hx => t.is.mpr (h.ah x hx)
  un := un'
  gt := fun z x hx => h.gt (z.imp two' id) x (t.is.mp hx)
  p0 := fun x tk st h1 h2 => t.ok (h.hs x (mem_keys h1)) (h.p0 x tk st h1 h2)
  p2 := fun f => by
    obtain ⟨P, h1, h2⟩ := h.p2 fun x hx => f x (t.is.mpr hx)
    refine ⟨P, fun p hp => ?_, fun x hx np tk htk => ?_⟩
    · rw [t.len]
      exact t.dead _ (h1 p fun x hx => hp x (t.is.mpr hx))
    · have hi := t.is.mp hx
      obtain ⟨a, b, c⟩ := h2 x hi np tk htk
      have := t.mono hi
      refine ⟨by omega, fun e he es u eu tk' st ed => ?_, c⟩
      rcases lt' e he u eu tk' st ed with ⟨k1, k2⟩ | k
      · exact b e k1 es u eu tk' st k2
      · rw [es] at k; omega
theorem mem_lts {M : Wd} {l : Lt} (h : l ∈ lts M) : ∃ e ∈ M.lying, e.2 = l := List.mem_map.mp h
theorem lts_mem {M : Wd} {e : Int × Lt} (h : e ∈ M.lying) : e.2 ∈ lts M := List.mem_map.mpr ⟨e, h, rfl⟩
theorem iq_ta {M M' : Wd} (w : WC M) (h : IQ M) (t : TA M M') : IQ M' where
  qi := fun q h1 h2 => by
    have e : M'.inqAt q = M.inqAt q := by unfold Wd.inqAt; rw [t.as_]
    rw [e]
    rw [t.as_] at h2
    have hq := h.qi q h1 h2
    refine hq.keep t.tr ?_ ?_ ?_
    · obtain ⟨a, p⟩ := t.one q
      have := (p.append_right (keys (M.inqAt q).ticks)).nodup_iff.mp hq.un
      rw [List.append_assoc] at this
      exact (List.nodup_append.mp this).2.1
    · rintro ⟨l, hl, h2⟩
      obtain ⟨e, he, rfl⟩ := mem_lts hl
      rcases t.me e he with he | ⟨_, hn⟩
      · exact ⟨e.2, lts_mem he, h2⟩
      · exact absurd h2.inq hn
    · intro e he u eu tk' st ed
      rw [t.an] at ed
      rcases t.me e he with he | ⟨_, hn⟩
      · exact .inl ⟨he, ed⟩
      · exact absurd (by unfold inq; rw [eu]; trivial) hn
  lq := fun l hl q u eu => by
    rw [t.as_]
    obtain ⟨e, he, rfl⟩ := mem_lts hl
    rcases t.me e he with he | ⟨_, hn⟩
    · exact h.lq _ (lts_mem he) q u eu
    · exact absurd (by unfold inq; rcases eu with eu | eu <;> rw [eu] <;> trivial) hn
  aa := fun e he q u eu => by
    rw [t.an]
    rcases t.me e he with he | ⟨_, hn⟩
    · obtain ⟨tk, st, h1, h2⟩ := h.aa e he q u eu
      exact ⟨tk, st, h1, t.tr.ok (w.1.lt _ (lts_mem he)).1 h2⟩
    · exact absurd (by unfold inq; rw [eu]; trivial) hn
theorem ctl_wc {M M1 M' : Wd} {out nw : List Lt} (w : WC M) (L : Less M M1 out) (ho : ∀ l ∈ out, isCtl l) (hn : ∀ l ∈ nw, isCtl l ∧ LtOk M.hs (lts M) l) (e1 : M'.hs = M.hs) (e2 : lts M' = lts M1 ++ nw) (k : NK M') (es : M'.share = M.share) :
    WC M' ∧ Tr M M' := by
  refine ⟨⟨?_, k, by rw [es]; exact w.2.2⟩, fun G d => ?_, by rw [e1], fun j _ => .inl (by rw [e1])⟩
  · rw [e1, e2]
    exact (w.1.perm L.pm).ctl ho fun l hl => ⟨(hn l hl).1, (hn l hl).2.mono (fun _ h => h) (fun _ h => h) (fun _ h => h) fun G d => d.perm fun l hl => L.pm.mem_iff.mpr hl⟩
  · rw [e1, e2]
    exact Dead.ctl ho (fun l hl => (hn l hl).1) (d.perm fun l hl => L.pm.mem_iff.mpr hl)
theorem one_ask (h : Int) (n : Nat) (q' q : Int) : (askLts h n q' 1).filterMap (oneL q) = if q' = q then houses n else [] := by
  unfold askLts
  rw [List.filterMap_map]
  by_cases e : q' = q
  · rw [if_pos e]
    have : (oneL q ∘ fun g => (⟨h, g, .ask q' 1⟩ : Lt)) = some := by
      funext g
      show (if q' = q ∧ (1 : Int) = 1 then some g else none) = some g
      rw [if_pos ⟨e, rfl⟩]
    rw [this, List.filterMap_some]
  · rw [if_neg e]
    refine List.filterMap_eq_nil_iff.mpr fun g _ => ?_
    show (if q' = q ∧ (1 : Int) = 1 then some g else none) = none
    rw [if_neg fun z => e z.1]
theorem mem_ask {h : Int} {n : Nat} {q t : Int} {l : Lt} (hl : l ∈ askLts h n q t) : l.sender = h ∧ (0 ≤ l.goal ∧ l.goal < (n : Int)) ∧ l.ab = .ask q t := by
  obtain ⟨g, hg, rfl⟩ := List.mem_map.mp hl
  exact ⟨rfl, mem_hss.mp hg, rfl⟩
theorem iq_ask {M M' : Wd} {h : Int} (w : WC M) (i : IQ M) (e : M.ask h = .ok M') : WC M' ∧ IQ M' ∧ Tr M M' := by
  unfold Wd.ask at e
  split at e
  · rename_i qh
    have e := Except.ok.inj e
    have ih := isH_iff.mp qh
    have k1 : NK { M with asked := M.asked ++ [Inq.new] } := ⟨w.2.1.nd, w.2.1.le, w.2.1.l0⟩
    have p := puts_ok (askLts h M.hs.length ((M.asked.length : Int) + 1) 1) k1
    rw [e] at p
    have hl : ∀ l ∈ askLts h M.hs.length ((M.asked.length : Int) + 1) 1, isCtl l ∧ LtOk M.hs (lts M) l := fun l hl => by
      obtain ⟨a, b, c⟩ := mem_ask hl
      refine ⟨by unfold isCtl; rw [c]; trivial, by rw [a]; exact ih, b, by rw [c]; trivial⟩
    obtain ⟨w', t⟩ := ctl_wc (M' := M') w (less_refl w.2.1) (fun l hl => nomatch hl) hl p.hs p.lt p.nk p.sh
    have ea : M'.asked = M.asked ++ [Inq.new] := p.as_
    have elt : lts M' = lts M ++ askLts h M.hs.length ((M.asked.length : Int) + 1) 1 := p.lt
    have len : (M'.asked.length : Int) = (M.asked.length : Int) + 1 := by rw [ea, List.length_append]; simp
    have ean : M'.answers = M.answers := p.an
    refine ⟨w', ⟨fun q h1 h2 => ?_, fun l hl q u eu => ?_, fun x hx q u eu => ?_⟩, t⟩
    · by_cases c : q = (M.asked.length : Int) + 1
      · have eq : M'.inqAt q = Inq.new := by
          unfold Wd.inqAt
          rw [ea, c, List.getD_eq_getElem?_getD, List.getElem?_append_right (by omega)]
          rw [show ((M.asked.length : Int) + 1 - 1).toNat - M.asked.length = 0 from by omega]
          rfl
        rw [eq]
        have nol : ∀ l ∈ lts M, ∀ u, ¬ (l.ab = .ask q u ∨ l.ab = .ans q u) := fun l hl u eu => by
          have := i.lq l hl q u eu
          omega
        exact {
          ks := rfl
          hs := fun h hh => nomatch hh
          an := List.nodup_nil
          ah := fun h hh => nomatch hh
          un := by
            rw [elt, List.filterMap_append, one_ask, if_pos c.symm]
            have : (lts M).filterMap (oneL q) = [] := by
              refine List.filterMap_eq_nil_iff.mpr fun l hl => ?_
              have := nol l hl
              unfold oneL
              rcases el : l.ab with ⟨q', t'⟩ | ⟨q', t'⟩ | ⟨c', w⟩ | ⟨c', g⟩ | ⟨c', w⟩ | ⟨c', w⟩ | ts
              · exact if_neg fun z => this t' (.inl (by rw [el, z.1]))
              · exact if_neg fun z => this t' (.inr (by rw [el, z.1]))
              all_goals rfl
            rw [this]
            show (([] : List Int) ++ houses _ ++ []).Nodup
            rw [List.append_nil]
            exact nodup_hss _
          gt := by
            rintro (⟨l, hl, h2⟩ | z)
            · rw [elt] at hl
              rcases List.mem_append.mp hl with hl | hl
              · have := nol l hl
                unfold twoL at h2
                rcases el : l.ab with ⟨q', t'⟩ | ⟨q', t'⟩ | ⟨c', w⟩ | ⟨c', g⟩ | ⟨c', w⟩ | ⟨c', w⟩ | ts <;> rw [el] at h2
                · exact absurd (.inl (by rw [el, h2.1])) (this t')
                · exact absurd (.inr (by rw [el, h2.1])) (this t')
                all_goals exact h2.elim
              · obtain ⟨_, _, z⟩ := mem_ask hl
                unfold twoL at h2
                rw [z] at h2
                exact absurd rfl h2.2
            · exact absurd rfl z
          p0 := fun h tk st z => nomatch z
          p2 := fun f => nomatch f h (t.is.mpr ih) }
      · have eq : M'.inqAt q = M.inqAt q := by
          unfold Wd.inqAt
          rw [ea, List.getD_eq_getElem?_getD, List.getD_eq_getElem?_getD, List.getElem?_append_left (by omega)]
        rw [eq]
        have hq := i.qi q h1 (by omega)
        refine hq.keep t ?_ ?_ ?_
        · rw [elt, List.filterMap_append, one_ask, if_neg (fun z => c z.symm), List.append_nil]
          exact hq.un
        · rintro ⟨l, hl, h2⟩
          rw [elt] at hl
          rcases List.mem_append.mp hl with hl | hl
          · exact ⟨l, hl, h2⟩
          · obtain ⟨_, _, z⟩ := mem_ask hl
            unfold twoL at h2
            rw [z] at h2
            exact absurd rfl h2.2
        · intro x hx u eu tk' st ed
          rw [ean] at ed
          rcases p.me x hx with hx | ⟨_, hx⟩
          · exact .inl ⟨hx, ed⟩
          · obtain ⟨_, _, z⟩ := mem_ask hx
            rw [z] at eu; cases eu
    · rw [len]
      rw [elt] at hl
      rcases List.mem_append.mp hl with hl | hl
      · have := i.lq l hl q u eu; omega
      · obtain ⟨_, _, z⟩ := mem_ask hl
        rcases eu with eu | eu <;> rw [z] at eu <;> cases eu
        omega
    · rcases p.me x hx with hx | ⟨_, hx⟩
      · obtain ⟨tk, st, a, b⟩ := i.aa x hx q u eu
        exact ⟨tk, st, by rw [ean]; exact a, t.ok (w.1.lt _ (lts_mem hx)).1 b⟩
      · obtain ⟨_, _, z⟩ := mem_ask hx
        rw [z] at eu; cases eu
  · cases e
/-- a house answers -/
theorem iq_answered {M : Wd} {n : Int} {l : Lt} {q t : Int} (w : WC M) (i : IQ M) (e : dget M.lying n = some l) (el : l.ab = .ask q t) :
    WC (Wd.answered { M with lying := ddrop M.lying n } l.sender l.goal q t) ∧ IQ (Wd.answered { M with lying := ddrop M.lying n } l.sender l.goal q t) ∧ Tr M (Wd.answered { M with lying := ddrop M.lying n } l.sender l.goal q t) := by
  have L := less_drop w.2.1 e
  have hlm : l ∈ lts M := lts_mem (dget_mem e)
  obtain ⟨is, ig, _⟩ := w.1.lt l hlm
  have pe := put_eq L.nk ⟨l.goal, l.sender, .ans q t⟩
  have pk := L.nk.put ⟨l.goal, l.sender, .ans q t⟩
  generalize eM' : Wd.answered { M with lying := ddrop M.lying n } l.sender l.goal q t = M'
  have e1 : M'.hs = M.hs := by rw [← eM']; rfl
  have ely : M'.lying = ddrop M.lying n ++ [(M.last + 1, ⟨l.goal, l.sender, .ans q t⟩)] := by rw [← eM']; exact pe
  have e2 : lts M' = lts { M with lying := ddrop M.lying n } ++ [⟨l.goal, l.sender, .ans q t⟩] := by
    unfold lts
    rw [ely, List.map_append]; rfl
  have ea : M'.asked = M.asked := by rw [← eM']; rfl
  have ean : M'.answers = dput M.answers (M.last + 1) ((atH M.hs l.goal).ticks, (atH M.hs l.goal).state l.goal) := by rw [← eM']; rfl
  have k' : NK M' := by rw [← eM']; exact ⟨pk.nd, pk.le, pk.l0⟩
  obtain ⟨w', tr⟩ := ctl_wc (M' := M') w L (fun l' hl => by rcases List.mem_singleton.mp hl with rfl; unfold isCtl; rw [el]; trivial) (nw := [⟨l.goal, l.sender, .ans q t⟩]) (fun l' hl => by
    rcases List.mem_singleton.mp hl with rfl
    exact ⟨trivial, ig, is, trivial⟩) e1 e2 k' (by rw [← eM']; rfl)
  have old : ∀ x ∈ ddrop M.lying n, x ∈ M.lying ∧ dget M'.answers x.1 = dget M.answers x.1 := fun x hx => by
    have := L.me x hx
    refine ⟨this, ?_⟩
    rw [ean, dget_dput, if_neg]
    have := w.2.1.le _ (mem_keys_of this)
    omega
  refine ⟨w', ⟨fun q' h1 h2 => ?_, fun l' hl q' u eu => ?_, fun x hx q' u eu => ?_⟩, tr⟩
  · have eq : M'.inqAt q' = M.inqAt q' := by unfold Wd.inqAt; rw [ea]
    rw [eq]
    rw [ea] at h2
    have hq := i.qi q' h1 h2
    refine hq.keep tr ?_ ?_ ?_
    · have p1 := (L.pm.filterMap (oneL q')).append_right (keys (M.inqAt q').ticks)
      have h3 := p1.nodup_iff.mp hq.un
      rw [e2, List.filterMap_append]
      have : [(⟨l.goal, l.sender, .ans q t⟩ : Lt)].filterMap (oneL q') = [l].filterMap (oneL q') := by
        rw [List.filterMap_cons, List.filterMap_cons]
        have : oneL q' ⟨l.goal, l.sender, .ans q t⟩ = oneL q' l := by unfold oneL; rw [el]
        rw [this]
      rw [this]
      rw [List.filterMap_append] at h3
      exact ((List.perm_append_comm (l₁ := [l].filterMap (oneL q')) (l₂ := (lts { M with lying := ddrop M.lying n }).filterMap (oneL q'))).append_right _).nodup_iff.mp h3
    · rintro ⟨l', hl, h2⟩
      rw [e2] at hl
      rcases List.mem_append.mp hl with hl | hl
      · exact ⟨l', L.pm.mem_iff.mpr (List.mem_append.mpr (.inr hl)), h2⟩
      · rcases List.mem_singleton.mp hl with rfl
        refine ⟨l, hlm, ?_⟩
        unfold twoL at h2 ⊢
        rw [el]
        exact h2
    · intro x hx u eu tk' st ed
      rw [ely] at hx
      rcases List.mem_append.mp hx with hx | hx
      · exact .inl ⟨(old x hx).1, by rw [← (old x hx).2]; exact ed⟩
      · rcases List.mem_singleton.mp hx with rfl
        rw [ean, dget_dput, if_pos rfl] at ed
        cases ed
        exact .inr (Int.le_refl _)
  · rw [ea]
    rw [e2] at hl
    rcases List.mem_append.mp hl with hl | hl
    · exact i.lq l' (L.pm.mem_iff.mpr (List.mem_append.mpr (.inr hl))) q' u eu
    · rcases List.mem_singleton.mp hl with rfl
      rcases eu with eu | eu <;> cases eu
      exact i.lq l hlm q t (.inl el)
  · rw [ely] at hx
    rcases List.mem_append.mp hx with hx | hx
    · obtain ⟨tk, st, a, b⟩ := i.aa x (old x hx).1 q' u eu
      exact ⟨tk, st, by rw [(old x hx).2]; exact a, tr.ok (w.1.lt _ (lts_mem (old x hx).1)).1 b⟩
    · rcases List.mem_singleton.mp hx with rfl
      refine ⟨(atH M.hs l.goal).ticks, (atH M.hs l.goal).state l.goal, by rw [ean, dget_dput, if_pos rfl], ?_⟩
      unfold AOk
      rw [e1]
      exact ⟨Int.le_refl _, fun _ => rfl⟩
end Fm

set_option linter.all false
set_option maxRecDepth 100000
namespace Fm
section
variable {M M' : Wd} {n : Int} {l : Lt} {q t : Int} {x : Inq} {nw : List Lt}
structure HC (M M' : Wd) (n q : Int) (l : Lt) (x : Inq) (nw : List Lt) : Prop where
  hs : M'.hs = M.hs
  ly : lts M' = lts { M with lying := ddrop M.lying n } ++ nw
  as_ : M'.asked = M.asked.set (q - 1).toNat x
  an : M'.answers = ddrop M.answers n
  me : ∀ e ∈ M'.lying, (e ∈ M.lying ∧ e.1 ≠ n) ∨ e.2 ∈ nw
  nk : NK M'
  sh : M'.share = M.share
  nn : ∀ l ∈ nw, isCtl l ∧ (∀ q' u, l.ab ≠ .ans q' u) ∧ ∀ q' u, l.ab = .ask q' u → q' = q ∧ u = 2
theorem HC.one (c : HC M M' n q l x nw) (q' : Int) : (lts M').filterMap (oneL q') = (lts { M with lying := ddrop M.lying n }).filterMap (oneL q') := by
  have : nw.filterMap (oneL q') = [] := by
    refine List.filterMap_eq_nil_iff.mpr fun l' hl => ?_
    obtain ⟨a, b, d⟩ := c.nn l' hl
    unfold oneL
    rcases el : l'.ab with ⟨q', t'⟩ | ⟨q', t'⟩ | ⟨c', w⟩ | ⟨c', g⟩ | ⟨c', w⟩ | ⟨c', w⟩ | ts
    · refine if_neg fun z => ?_
      have := (d _ _ el).2
      omega
    · exact absurd el (b _ _)
    all_goals rfl
  rw [c.ly, List.filterMap_append, this, List.append_nil]
theorem HC.two (c : HC M M' n q l x nw) (k : NK M) (e : dget M.lying n = some l) {q' : Int} (h : ∃ l ∈ lts M', twoL q' l) : (∃ l ∈ lts M, twoL q' l) ∨ (q' = q ∧ nw ≠ []) := by
  obtain ⟨l', hl, h2⟩ := h
  rw [c.ly] at hl
  rcases List.mem_append.mp hl with hl | hl
  · exact .inl ⟨l', (less_drop k e).pm.mem_iff.mpr (List.mem_append.mpr (.inr hl)), h2⟩
  · right
    obtain ⟨a, b, d⟩ := c.nn l' hl
    unfold twoL at h2
    rcases el : l'.ab with ⟨q', t'⟩ | ⟨q', t'⟩ | ⟨c', w⟩ | ⟨c', g⟩ | ⟨c', w⟩ | ⟨c', w⟩ | ts <;> rw [el] at h2
    · exact ⟨by rw [← h2.1]; exact (d _ _ el).1, fun z => by rw [z] at hl; cases hl⟩
    · exact absurd el (b _ _)
    all_goals exact h2.elim
theorem HC.ans (c : HC M M' n q l x nw) {e : Int × Lt} (he : e ∈ M'.lying) {q' u : Int} (eu : e.2.ab = .ans q' u) : e ∈ M.lying ∧ e.1 ≠ n ∧ dget M'.answers e.1 = dget M.answers e.1 := by
  rcases c.me e he with ⟨h1, h2⟩ | h
  · exact ⟨h1, h2, by rw [c.an, dget_ddrop, if_neg h2]⟩
  · exact absurd eu ((c.nn _ h).2.1 _ _)
theorem HC.iq (c : HC M M' n q l x nw) (w : WC M) (i : IQ M) (tr : Tr M M') (e : dget M.lying n = some l) (el : l.ab = .ans q t) (hx : QI M' q x) : IQ M' := by
  have hlm : l ∈ lts M := lts_mem (dget_mem e)
  obtain ⟨q1, q2⟩ := i.lq l hlm q t (.inr el)
  have len : M'.asked.length = M.asked.length := by rw [c.as_, List.length_set]
  refine ⟨fun q' h1 h2 => ?_, fun l' hl q' u eu => ?_, fun y hy q' u eu => ?_⟩
  · rw [len] at h2
    by_cases z : q' = q
    · have : M'.inqAt q' = x := by
        unfold Wd.inqAt
        rw [c.as_, z, List.getD_eq_getElem?_getD, List.getElem?_set_self (by omega)]
        rfl
      rw [this, z]; exact hx
    · have : M'.inqAt q' = M.inqAt q' := by
        unfold Wd.inqAt
        rw [c.as_, List.getD_eq_getElem?_getD, List.getD_eq_getElem?_getD, List.getElem?_set_ne (by omega)]
      rw [this]
      have hq := i.qi q' h1 h2
      refine hq.keep tr ?_ (fun h => ?_) fun y hy u eu tk' st ed => ?_
      · rw [c.one]
        have p1 := (((less_drop w.2.1 e).pm.filterMap (oneL q')).append_right (keys (M.inqAt q').ticks)).nodup_iff.mp hq.un
        rw [List.filterMap_append, List.append_assoc] at p1
        exact (List.nodup_append.mp p1).2.1
      · rcases c.two w.2.1 e h with h | h
        · exact h
        · exact absurd h.1 z
      · obtain ⟨a, b, d⟩ := c.ans hy eu
        rw [d] at ed
        exact .inl ⟨a, ed⟩
  · rw [len]
    rw [c.ly] at hl
    rcases List.mem_append.mp hl with hl | hl
    · exact i.lq l' ((less_drop w.2.1 e).pm.mem_iff.mpr (List.mem_append.mpr (.inr hl))) q' u eu
    · obtain ⟨_, b, d⟩ := c.nn l' hl
      rcases eu with eu | eu
      · rw [(d _ _ eu).1]; exact ⟨q1, q2⟩
      · exact absurd eu (b _ _)
  · obtain ⟨a, b, d⟩ := c.ans hy eu
    obtain ⟨tk, st, h1, h2⟩ := i.aa y a q' u eu
    exact ⟨tk, st, by rw [d]; exact h1, tr.ok (w.1.lt _ (lts_mem a)).1 h2⟩
/-- the first answer -/
theorem HC.first (c : HC M M' n q l x nw) (w : WC M) (w' : WC M') (i : IQ M) (tr : Tr M M') (e : dget M.lying n = some l) (el : l.ab = .ans q 1) {tk : Int} {st : StD} (ed : dget M.answers n = some (tk, st))
    (ex : x = { M.inqAt q with ticks := dput (M.inqAt q).ticks l.sender tk, states := dput (M.inqAt q).states l.sender st }) (hw : nw ≠ [] → x.ticks.length = M.hs.length) : QI M' q x := by
  have hlm : l ∈ lts M := lts_mem (dget_mem e)
  have is : isH M.hs l.sender := (w.1.lt l hlm).1
  obtain ⟨q1, q2⟩ := i.lq l hlm q 1 (.inr el)
  have hq := i.qi q q1 q2
  have hA : AOk M l.sender tk st := by
    obtain ⟨tk', st', h1, h2⟩ := i.aa _ (dget_mem e) q 1 el
    rw [show (dget M.answers n) = _ from h1] at ed
    cases ed
    exact h2
  have L := less_drop w.2.1 e
  have ol : [l].filterMap (oneL q) = [l.sender] := by
    rw [List.filterMap_cons]
    have : oneL q l = some l.sender := by unfold oneL; rw [el]; exact if_pos ⟨rfl, rfl⟩
    rw [this]
    rfl
  have un := ((L.pm.filterMap (oneL q)).append_right (keys (M.inqAt q).ticks)).nodup_iff.mp hq.un
  rw [List.filterMap_append, ol, List.append_assoc] at un
  have sn : l.sender ∉ keys (M.inqAt q).ticks := fun z => (List.nodup_append.mp un).2.2 l.sender (List.mem_singleton.mpr rfl) l.sender (List.mem_append.mpr (.inr z)) rfl
  have nf : ¬ full M (M.inqAt q) := fun f => sn (f _ is)
  have et : x.ticks = dput (M.inqAt q).ticks l.sender tk := by rw [ex]
  have es : x.states = dput (M.inqAt q).states l.sender st := by rw [ex]
  have eg : x.again = (M.inqAt q).again := by rw [ex]
  have ks : keys x.ticks = keys x.states := by rw [et, es, keys_dput, keys_dput, hq.ks]
  have kt : keys x.ticks = keys (M.inqAt q).ticks ++ [l.sender] := by rw [et, keys_dput, if_neg sn]
  have p0 : ∀ h tk st, dget x.ticks h = some tk → dget x.states h = some st → AOk M h tk st := by
    intro h tk' st' h1 h2
    rw [et, dget_dput] at h1
    rw [es, dget_dput] at h2
    by_cases z : h = l.sender
    · rw [if_pos z] at h1 h2
      cases h1; cases h2
      rw [z]; exact hA
    · rw [if_neg z] at h1 h2
      exact hq.p0 h tk' st' h1 h2
  have hs : ∀ h ∈ keys x.ticks, isH M.hs h := fun h hh => by
    rw [kt] at hh
    rcases List.mem_append.mp hh with hh | hh
    · exact hq.hs h hh
    · rcases List.mem_singleton.mp hh with rfl; exact is
  have un' : ((lts M').filterMap (oneL q) ++ keys x.ticks).Nodup := by
    rw [c.one, kt, ← List.append_assoc]
    exact (List.perm_append_comm (l₁ := [l.sender])).nodup_iff.mp un
  have fullx : nw ≠ [] → full M' x := fun hn h hh => by
    have nd : (keys x.ticks).Nodup := (List.nodup_append.mp un').2.1
    refine pig (m := houses M.hs.length) nd (fun y hy => mem_hss.mpr (hs y hy)) ?_ h (mem_hss.mpr (tr.is.mp hh))
    rw [len_hss, ← hw hn]
    show _ ≤ (x.ticks.map (·.1)).length
    rw [List.length_map]
    exact Nat.le_refl _
  exact {
    ks := ks
    hs := fun h hh => tr.is.mpr (hs h hh)
    an := by rw [eg]; exact hq.an
    ah := fun h hh => tr.is.mpr (hq.ah h (by rw [← eg]; exact hh))
    un := un'
    gt := by
      rintro (z | z)
      · rcases c.two w.2.1 e z with z | z
        · exact absurd (hq.gt (.inl z)) nf
        · exact fullx z.2
      · rw [eg] at z
        exact absurd (hq.gt (.inr z)) nf
    p0 := fun h tk st h1 h2 => tr.ok (hs h (mem_keys h1)) (p0 h tk st h1 h2)
    p2 := fun f => by
      refine ⟨fun h => dget x.ticks h = some (atH M'.hs h).ticks, fun p hp => ?_, fun h hh np tk' htk => ?_⟩
      · have ee : toldBy p x M'.hs.length = stOf M'.hs ((houses M'.hs.length).filter p) := by
          unfold toldBy stOf
          have : ∀ hl : List Int, (∀ h ∈ hl, isH M'.hs h ∧ p h = true) → hl.filterMap (fun h => (dget x.states h).map fun s => (h, s)) = hl.map fun h => (h, (atH M'.hs h).state h) := by
            intro hl
            induction hl with
            | nil => exact fun _ => rfl
            | cons h hl ih =>
              intro hz
              obtain ⟨h1, h2⟩ := hz h (List.mem_cons_self ..)
              obtain ⟨s, hs'⟩ := dget_some (by rw [← ks]; exact f h h1 : h ∈ keys x.states)
              have := (tr.ok (tr.is.mp h1) (p0 h _ s (hp h h1 h2) hs')).2 rfl
              rw [List.filterMap_cons, hs', List.map_cons, ih fun y hy => hz y (List.mem_cons_of_mem _ hy), ← this]
              rfl
          exact this _ fun h hh => ⟨mem_hss.mp (List.mem_filter.mp hh).1, (List.mem_filter.mp hh).2⟩
        rw [ee]
        exact dead_found w'.1 p
      · have hi := tr.is.mp hh
        obtain ⟨s, hs'⟩ := dget_some (by rw [← ks]; exact f h hh : h ∈ keys x.states)
        have ha := tr.ok hi (p0 h tk' s htk hs')
        refine ⟨?_, fun y hy ys u eu tk2 st2 ed2 => ?_, fun tk2 h2 => ?_⟩
        · have := ha.1
          have : tk' ≠ (atH M'.hs h).ticks := fun z => np (htk.trans (congrArg some z))
          omega
        · exfalso
          obtain ⟨a, b, d⟩ := c.ans hy eu
          by_cases u1 : u = 1
          · have hin : h ∈ (lts M').filterMap (oneL q) := by
              refine List.mem_filterMap.mpr ⟨y.2, lts_mem hy, ?_⟩
              unfold oneL
              rw [eu]
              show (if q = q ∧ u = 1 then some y.2.sender else none) = _
              rw [if_pos ⟨rfl, u1⟩, ys]
            exact (List.nodup_append.mp un').2.2 h hin h (mem_keys htk) rfl
          · refine nf (hq.gt (.inl ⟨y.2, lts_mem a, ?_⟩))
            unfold twoL
            rw [eu]
            exact ⟨rfl, u1⟩
        · rw [eg] at h2
          exact absurd (hq.gt (.inr fun z => by rw [z] at h2; cases h2)) nf }
/-- the second answer -/
theorem HC.second (c : HC M M' n q l x nw) (w : WC M) (i : IQ M) (tr : Tr M M') (e : dget M.lying n = some l) (el : l.ab = .ans q t) (ht : t ≠ 1) {tk : Int} {st : StD} (ed : dget M.answers n = some (tk, st))
    (ex : x = { M.inqAt q with again := dput (M.inqAt q).again l.sender tk }) : QI M' q x ∧ full M (M.inqAt q) ∧
    ∀ p : Int → Bool, (∀ h, p h = true → dget x.ticks h = dget x.again h) → Dead M.hs (lts M) fun b => b ∈ unreached (toldBy p x M.hs.length) := by
  have hlm : l ∈ lts M := lts_mem (dget_mem e)
  have is : isH M.hs l.sender := (w.1.lt l hlm).1
  obtain ⟨q1, q2⟩ := i.lq l hlm q t (.inr el)
  have hq := i.qi q q1 q2
  have L := less_drop w.2.1 e
  have et : x.ticks = (M.inqAt q).ticks := by rw [ex]
  have es : x.states = (M.inqAt q).states := by rw [ex]
  have eg : x.again = dput (M.inqAt q).again l.sender tk := by rw [ex]
  have f : full M (M.inqAt q) := hq.gt (.inl ⟨l, hlm, by unfold twoL; rw [el]; exact ⟨rfl, ht⟩⟩)
  have un := ((L.pm.filterMap (oneL q)).append_right (keys (M.inqAt q).ticks)).nodup_iff.mp hq.un
  rw [List.filterMap_append, List.append_assoc] at un
  obtain ⟨P, h1, h2⟩ := hq.p2 f
  have h3 : ∀ h, isH M.hs h → ¬ P h → ∀ tk', dget x.ticks h = some tk' → tk' < (atH M.hs h).ticks ∧ ∀ tk2, dget x.again h = some tk2 → tk' < tk2 := by
    intro h hh np tk' htk
    rw [et] at htk
    obtain ⟨a, b, d⟩ := h2 h hh np tk' htk
    refine ⟨a, fun tk2 h4 => ?_⟩
    rw [eg, dget_dput] at h4
    split at h4
    · rename_i z
      cases h4
      exact b _ (dget_mem e) z.symm t el tk st ed
    · exact d tk2 h4
  refine ⟨?_, f, fun p hp => ?_⟩
  · exact {
      ks := by rw [et, es]; exact hq.ks
      hs := fun h hh => tr.is.mpr (hq.hs h (by rw [← et]; exact hh))
      an := by rw [eg]; exact nodup_dput hq.an
      ah := fun h hh => by
        rw [eg] at hh
        rcases mem_keys_dput.mp hh with rfl | hh
        · exact tr.is.mpr is
        · exact tr.is.mpr (hq.ah h hh)
      un := by
        rw [c.one, et]
        exact (List.nodup_append.mp un).2.1
      gt := fun _ h hh => by rw [et]; exact f h (tr.is.mp hh)
      p0 := fun h tk st h1 h2 => by
        rw [et] at h1
        rw [es] at h2
        exact tr.ok (hq.hs h (mem_keys h1)) (hq.p0 h tk st h1 h2)
      p2 := fun _ => by
        refine ⟨P, fun p hp => ?_, fun h hh np tk' htk => ?_⟩
        · rw [tr.len]
          have : toldBy p x M.hs.length = toldBy p (M.inqAt q) M.hs.length := by unfold toldBy; rw [es]
          rw [this]
          exact tr.dead _ (h1 p fun h hh => hp h (tr.is.mpr hh))
        · have hi := tr.is.mp hh
          obtain ⟨a, b⟩ := h3 h hi np tk' htk
          rw [et] at htk
          obtain ⟨_, b', _⟩ := h2 h hi np tk' htk
          have := tr.mono hi
          refine ⟨by omega, fun y hy ys u eu tk2 st2 ed2 => ?_, b⟩
          obtain ⟨k1, k2, k3⟩ := c.ans hy eu
          rw [k3] at ed2
          exact b' y k1 ys u eu tk2 st2 ed2 }
  · have : toldBy p x M.hs.length = toldBy p (M.inqAt q) M.hs.length := by unfold toldBy; rw [es]
    rw [this]
    refine h1 p fun h hh ph => Classical.byContradiction fun np => ?_
    obtain ⟨tk', htk⟩ := dget_some (by rw [et]; exact f h hh : h ∈ keys x.ticks)
    have := (h3 h hh np tk' htk).2 tk' (by rw [← hp h ph]; exact htk)
    omega
end
theorem told_eq (n : Nat) (Q : Inq) : Q.told n = toldBy (fun h => decide (dget Q.ticks h = dget Q.again h)) Q n := rfl
/-- an answer is heard -/
theorem iq_heard {M : Wd} {n : Int} {l : Lt} {q t : Int} (w : WC M) (i : IQ M) (e : dget M.lying n = some l) (el : l.ab = .ans q t) :
    WC (Wd.heard { M with lying := ddrop M.lying n } n l.sender l.goal q t).1 ∧ IQ (Wd.heard { M with lying := ddrop M.lying n } n l.sender l.goal q t).1 ∧ Tr M (Wd.heard { M with lying := ddrop M.lying n } n l.sender l.goal q t).1 := by
  have L := less_drop w.2.1 e
  have hlm : l ∈ lts M := lts_mem (dget_mem e)
  obtain ⟨is, ig, _⟩ := w.1.lt l hlm
  obtain ⟨tk, st, ed, _⟩ := i.aa _ (dget_mem e) q t el
  have ed : dget M.answers n = some (tk, st) := ed
  have lc : ∀ l' ∈ [l], isCtl l' := fun l' hl => by rcases List.mem_singleton.mp hl with rfl; unfold isCtl; rw [el]; trivial
  have hm1 : ∀ x ∈ ddrop M.lying n, x ∈ M.lying ∧ x.1 ≠ n := fun x hx => mem_ddrop hx
  have key : ∀ (x : Inq) (dn : List (Int × List Th)) (nw : List Lt), (∀ l ∈ nw, isCtl l ∧ (∀ q' u, l.ab ≠ .ans q' u) ∧ ∀ q' u, l.ab = .ask q' u → q' = q ∧ u = 2) → (∀ l ∈ nw, LtOk M.hs (lts M) l) →
      (∀ M', HC M M' n q l x nw → WC M' → Tr M M' → QI M' q x) →
      WC (({ M with lying := ddrop M.lying n, answers := ddrop M.answers n, asked := M.asked.set (q - 1).toNat x, done := dn } : Wd).puts nw) ∧ IQ (({ M with lying := ddrop M.lying n, answers := ddrop M.answers n, asked := M.asked.set (q - 1).toNat x, done := dn } : Wd).puts nw) ∧ Tr M (({ M with lying := ddrop M.lying n, answers := ddrop M.answers n, asked := M.asked.set (q - 1).toNat x, done := dn } : Wd).puts nw) := by
    intro x dn nw h1 h2 h3
    have k1 : NK ({ M with lying := ddrop M.lying n, answers := ddrop M.answers n, asked := M.asked.set (q - 1).toNat x, done := dn } : Wd) := ⟨L.nk.nd, L.nk.le, L.nk.l0⟩
    have p := puts_ok nw k1
    have hc : HC M (({ M with lying := ddrop M.lying n, answers := ddrop M.answers n, asked := M.asked.set (q - 1).toNat x, done := dn } : Wd).puts nw) n q l x nw := by
      refine ⟨p.hs, p.lt, p.as_, p.an, fun y hy => ?_, p.nk, p.sh, h1⟩
      rcases p.me y hy with hy | hy
      · exact .inl (hm1 y hy)
      · exact .inr hy.2
    obtain ⟨w', tr⟩ := ctl_wc w L lc (fun l' hl => ⟨(h1 l' hl).1, h2 l' hl⟩) hc.hs hc.ly p.nk p.sh
    exact ⟨w', hc.iq w i tr e el (h3 _ hc w' tr), tr⟩
  unfold Wd.heard
  rw [show dget (Wd.answers { M with lying := ddrop M.lying n }) n = some (tk, st) from ed]
  simp only
  by_cases ht : t = 1
  · rw [if_pos ht]
    rw [ht] at el
    by_cases hlen : (dput (M.inqAt q).ticks l.sender tk).length = M.hs.length
    · rw [if_pos (show (dput (Wd.inqAt { M with lying := ddrop M.lying n } q).ticks l.sender tk).length = M.hs.length from hlen)]
      exact key { M.inqAt q with ticks := dput (M.inqAt q).ticks l.sender tk, states := dput (M.inqAt q).states l.sender st } M.done (askLts l.goal M.hs.length q 2) (fun l' hl => by
        obtain ⟨_, _, z⟩ := mem_ask hl
        refine ⟨by unfold isCtl; rw [z]; trivial, fun q' u z' => (by rw [z] at z'; cases z'), fun q' u z' => ?_⟩
        rw [z] at z'; cases z'; exact ⟨rfl, rfl⟩) (fun l' hl => by
        obtain ⟨a, b, z⟩ := mem_ask hl
        exact ⟨by rw [a]; exact ig, b, by rw [z]; trivial⟩) fun M' hc w' tr => hc.first w w' i tr e el ed rfl fun _ => hlen
    · rw [if_neg (show ¬ (dput (Wd.inqAt { M with lying := ddrop M.lying n } q).ticks l.sender tk).length = M.hs.length from hlen)]
      exact key { M.inqAt q with ticks := dput (M.inqAt q).ticks l.sender tk, states := dput (M.inqAt q).states l.sender st } M.done [] (fun l' hl => nomatch hl) (fun l' hl => nomatch hl) fun M' hc w' tr => hc.first w w' i tr e el ed rfl fun z => absurd rfl z
  · rw [if_neg ht]
    by_cases hlen : (dput (M.inqAt q).again l.sender tk).length = M.hs.length
    · rw [if_pos (show (dput (Wd.inqAt { M with lying := ddrop M.lying n } q).again l.sender tk).length = M.hs.length from hlen)]
      refine key { M.inqAt q with again := dput (M.inqAt q).again l.sender tk } (dput M.done q (Inq.result M.hs.length { M.inqAt q with again := dput (M.inqAt q).again l.sender tk })) (letLts l.goal M.hs.length (Inq.result M.hs.length { M.inqAt q with again := dput (M.inqAt q).again l.sender tk })) (fun l' hl => ?_) (fun l' hl => ?_) fun M' hc w' tr => (hc.second w i tr e el ht ed rfl).1
      · obtain ⟨g, hg, rfl⟩ := List.mem_map.mp hl
        exact ⟨trivial, fun q' u z' => (by cases z'), fun q' u z' => (by cases z')⟩
      · obtain ⟨g, hg, rfl⟩ := List.mem_map.mp hl
        -- the same inquiry, told by a step that changes nothing else
        have hq := i.qi q (i.lq l hlm q t (.inr el)).1 (i.lq l hlm q t (.inr el)).2
        have k1 : NK ({ M with lying := ddrop M.lying n, answers := ddrop M.answers n, asked := M.asked.set (q - 1).toNat { M.inqAt q with again := dput (M.inqAt q).again l.sender tk } } : Wd) := ⟨L.nk.nd, L.nk.le, L.nk.l0⟩
        have p := puts_ok [] k1
        have hc : HC M (({ M with lying := ddrop M.lying n, answers := ddrop M.answers n, asked := M.asked.set (q - 1).toNat { M.inqAt q with again := dput (M.inqAt q).again l.sender tk } } : Wd).puts []) n q l { M.inqAt q with again := dput (M.inqAt q).again l.sender tk } [] := by
          refine ⟨p.hs, p.lt, p.as_, p.an, fun y hy => ?_, p.nk, p.sh, fun l' hl => nomatch hl⟩
          rcases p.me y hy with hy | hy
          · exact .inl (hm1 y hy)
          · exact .inr hy.2
        obtain ⟨w', tr⟩ := ctl_wc w L lc (nw := []) (fun l' hl => nomatch hl) hc.hs hc.ly p.nk p.sh
        have d := (hc.second w i tr e el ht ed rfl).2.2 (fun h => decide (dget (M.inqAt q).ticks h = dget (dput (M.inqAt q).again l.sender tk) h)) fun h ph => of_decide_eq_true ph
        refine ⟨ig, mem_hss.mp hg, _, d, fun k => ?_⟩
        show k ∈ ((unreached _).filter fun t => decide (t.1 = g)).map (·.2) ↔ _
        constructor
        · intro z
          obtain ⟨b, hb, rfl⟩ := List.mem_map.mp z
          obtain ⟨hb, hb2⟩ := List.mem_filter.mp hb
          have hb2 := of_decide_eq_true hb2
          rw [← hb2]
          exact hb
        · intro z
          exact List.mem_map.mpr ⟨(g, k), List.mem_filter.mpr ⟨z, decide_eq_true rfl⟩, rfl⟩
    · rw [if_neg (show ¬ (dput (Wd.inqAt { M with lying := ddrop M.lying n } q).again l.sender tk).length = M.hs.length from hlen)]
      exact key { M.inqAt q with again := dput (M.inqAt q).again l.sender tk } M.done [] (fun l' hl => nomatch hl) (fun l' hl => nomatch hl) fun M' hc w' tr => (hc.second w i tr e el ht ed rfl).1
/-- a letter comes -/
theorem iq_come {M M' : Wd} {n : Int} {ns : List Int} (w : WC M) (i : IQ M) (e : M.come n = .ok (M', ns)) : WC M' ∧ IQ M' ∧ Tr M M' := by
  unfold Wd.come at e
  split at e
  · cases e
  · rename_i l el
    cases e
    by_cases h : inq l
    · unfold Wd.arrive
      rcases ea : l.ab with ⟨q, t⟩ | ⟨q, t⟩ | ⟨b, wv⟩ | ⟨b, g⟩ | ⟨b, wv⟩ | ⟨b, wv⟩ | ts
      · exact iq_answered w i el ea
      · exact iq_heard w i el ea
      all_goals (exfalso; unfold inq at h; rw [ea] at h; exact h)
    · have g := good_arr w el h
      exact ⟨g.1, iq_ta w i g.2, g.2.tr⟩
end Fm

set_option linter.all false
set_option maxRecDepth 100000
namespace Fm
/-! ### sizes -/
structure HZ (k : Nat) (S : Hs) : Prop where
  md : S.made ≤ (k : Int)
  hd : S.hand.length ≤ k
  hg : S.holding.length ≤ k
  ho : S.outs.length ≤ k
  hr : S.recs.length ≤ k
  inn : ∀ e ∈ S.holding, e.2.length ≤ k
structure SZt (k : Nat) (st : StD) : Prop where
  hd : st.hand.length ≤ k
  rc : st.recs.length ≤ k
  th : st.things.length ≤ k
  inn : ∀ e ∈ st.things, e.2.2.length ≤ k
  sm : ∀ e ∈ st.things, (0 ≤ e.1.1 ∧ e.1.1 < 4) ∧ 0 ≤ e.1.2 ∧ e.1.2 < (k : Int)
structure Sz (k : Nat) (M : Wd) : Prop where
  hn : M.hs.length ≤ 4
  hs : ∀ j, isH M.hs j → HZ k (atH M.hs j)
  ly : M.lying.length ≤ 100 * k
  la : M.last ≤ 100 * (k : Int)
  as_ : M.asked.length ≤ k
  an : M.answers.length ≤ k
  dn : M.done.length ≤ k
  qs : ∀ q ∈ M.asked, q.ticks.length ≤ k ∧ q.states.length ≤ k ∧ q.again.length ≤ k ∧ ∀ e ∈ q.states, SZt k e.2
  st : ∀ e ∈ M.answers, SZt k e.2.2
  dl : ∀ e ∈ M.done, e.2.length ≤ 4 * k ∧ ∀ t ∈ e.2, (0 ≤ t.1 ∧ t.1 < 4) ∧ 0 ≤ t.2 ∧ t.2 < (k : Int)
theorem HZ.mono {k j : Nat} {S : Hs} (h : HZ k S) (e : k ≤ j) : HZ j S :=
  ⟨by have := h.md; omega, Nat.le_trans h.hd e, Nat.le_trans h.hg e, Nat.le_trans h.ho e, Nat.le_trans h.hr e, fun x hx => Nat.le_trans (h.inn x hx) e⟩
theorem SZt.mono {k j : Nat} {S : StD} (h : SZt k S) (e : k ≤ j) : SZt j S :=
  ⟨Nat.le_trans h.hd e, Nat.le_trans h.rc e, Nat.le_trans h.th e, fun x hx => Nat.le_trans (h.inn x hx) e, fun x hx => ⟨(h.sm x hx).1, (h.sm x hx).2.1, by have := (h.sm x hx).2.2; omega⟩⟩
section
variable {k : Nat} {S S' : Hs} {h : Int}
theorem dput_mem {κ β : Type} [DecidableEq κ] {d : List (κ × β)} {a : κ} {v : β} {e : κ × β} (h : e ∈ dput d a v) : e ∈ d ∨ e.2 = v := by
  unfold dput at h
  split at h
  · obtain ⟨x, hx, q⟩ := List.mem_map.mp h
    split at q
    · right; rw [← q]
    · left; rw [← q]; exact hx
  · rcases List.mem_append.mp h with h | h
    · exact .inl h
    · rcases List.mem_singleton.mp h with rfl; exact .inr rfl
theorem HZ.tick (z : HZ k S) (t : Int) : HZ k { S with ticks := t } := { z with }
theorem HZ.make (z : HZ k S) : HZ (k + 1) (S.make h) where
  md := by show S.made + 1 ≤ _; have := z.md; omega
  hd := by have := hput_len S.hand (h, S.made); have := z.hd; show (hput S.hand (h, S.made)).length ≤ _; omega
  hg := by have := length_dput S.holding S.made ([] : List Th); have := z.hg; show (dput S.holding S.made []).length ≤ _; omega
  ho := by have := length_dput S.outs S.made (0 : Int); have := z.ho; show (dput S.outs S.made 0).length ≤ _; omega
  hr := by have := z.hr; show S.recs.length ≤ _; omega
  inn := fun e he => by
    rcases dput_mem he with he | he
    · have := z.inn e he; omega
    · rw [he]; exact Nat.zero_le _
theorem HZ.mod (z : HZ k S) (a t : Int) (f : List Th → List Th) (hf : ∀ l, (f l).length ≤ l.length + 1) : HZ (k + 1) { S with holding := dmod S.holding a f, ticks := t } where
  md := by have := z.md; show S.made ≤ _; omega
  hd := by have := z.hd; show S.hand.length ≤ _; omega
  hg := by have := z.hg; show (S.holding.map _).length ≤ _; rw [List.length_map]; omega
  ho := by have := z.ho; show S.outs.length ≤ _; omega
  hr := by have := z.hr; show S.recs.length ≤ _; omega
  inn := fun e he => by
    obtain ⟨x, hx, q⟩ := List.mem_map.mp (show e ∈ S.holding.map _ from he)
    have h1 := z.inn x hx
    have h2 := hf x.2
    split at q
    · rw [← q]; show (f x.2).length ≤ _; omega
    · rw [← q]; omega
theorem HZ.hnd (z : HZ k S) (t : Int) {l : List Th} (hl : l.length ≤ S.hand.length + 1) : HZ (k + 1) { S with hand := l, ticks := t } where
  md := by have := z.md; show S.made ≤ _; omega
  hd := by have := z.hd; show l.length ≤ _; omega
  hg := by have := z.hg; show S.holding.length ≤ _; omega
  ho := by have := z.ho; show S.outs.length ≤ _; omega
  hr := by have := z.hr; show S.recs.length ≤ _; omega
  inn := fun e he => by have := z.inn e he; omega
theorem HZ.wts (z : HZ k S) (t : Int) {l : List Th} {o : List (Int × Int)} {r : List (Th × Int)} (hl : l.length ≤ S.hand.length + 1) (ho : o.length ≤ S.outs.length + 1) (hr : r.length ≤ S.recs.length + 1) : HZ (k + 1) { S with hand := l, outs := o, recs := r, ticks := t } where
  md := by have := z.md; show S.made ≤ _; omega
  hd := by have := z.hd; show l.length ≤ _; omega
  hg := by have := z.hg; show S.holding.length ≤ _; omega
  ho := by have := z.ho; show o.length ≤ _; omega
  hr := by have := z.hr; show r.length ≤ _; omega
  inn := fun e he => by have := z.inn e he; omega
theorem HZ.only (z : HZ k S) (p : Int → Bool) : HZ k (S.only p) where
  md := z.md
  hd := z.hd
  hg := Nat.le_trans (List.length_filter_le ..) z.hg
  ho := Nat.le_trans (List.length_filter_le ..) z.ho
  hr := z.hr
  inn := fun e he => z.inn e (List.mem_filter.mp he).1
theorem HZ.back (z : HZ k S) : HZ k S.givenBack where
  md := z.md
  hd := z.hd
  hg := z.hg
  ho := z.ho
  hr := Nat.le_trans (List.length_filter_le ..) z.hr
  inn := z.inn
theorem back_len : S.back.length ≤ S.recs.length := by
  refine Nat.le_trans (List.length_filterMap_le ..) ?_
  show (sortT (keys S.recs)).length ≤ _
  have h1 : (sortT (keys S.recs)).length = (keys S.recs).length := List.length_mergeSort ..
  have h2 : (keys S.recs).length = S.recs.length := List.length_map ..
  omega
theorem HZ.hold {a b : Th} (z : HZ k S) (e : S.hold h a b = .ok S') : HZ (k + 1) S' := by
  unfold Hs.hold at e
  split at e
  · split at e
    · split at e
      · cases e; exact z.mod _ _ _ fun l => hput_len ..
      · cases e
    · cases e
  · cases e
theorem hdrop_le (l : List Th) (t : Th) : (hdrop l t).length ≤ l.length := List.length_filter_le ..
theorem HZ.drop {a b : Th} (z : HZ k S) (e : S.drop h a b = .ok S') : HZ (k + 1) S' := by
  unfold Hs.drop at e
  split at e
  · cases e
  · split at e
    · cases e; exact z.mod _ _ _ fun l => Nat.le_succ_of_le (hdrop_le l b)
    · cases e
theorem HZ.take {a b : Th} (z : HZ k S) (e : S.take h a b = .ok S') : HZ (k + 1) S' := by
  unfold Hs.take at e
  split at e
  · cases e
  · split at e
    · cases e; exact z.hnd _ (hput_len ..)
    · cases e
theorem HZ.free {b : Th} (z : HZ k S) (e : S.free b = .ok S') : HZ (k + 1) S' := by
  unfold Hs.free at e
  split at e
  · cases e; exact z.hnd _ (Nat.le_succ_of_le (hdrop_le ..))
  · cases e
theorem HZ.part {b : Th} {share w : Int} (z : HZ k S) (e : S.part h b share = .ok (S', w)) : HZ (k + 1) S' := by
  unfold Hs.part at e
  split at e
  · split at e
    · cases e; exact z.wts _ (Nat.le_succ _) (length_dput ..) (Nat.le_succ _)
    · split at e
      · cases e
      · cases e; exact z.wts _ (Nat.le_succ _) (Nat.le_succ _) (length_dput ..)
  · cases e
theorem given_len (b : Th) (w : Int) : (S.given b w).outs.length ≤ S.outs.length + 1 := by
  unfold Hs.given
  simp only
  split
  · exact length_dput ..
  · exact Nat.le_succ _
theorem HZ.came (z : HZ k S) (b : Th) (w : Int) : HZ (k + 1) (S.came h b w) := by
  unfold Hs.came
  split
  · exact z.wts (S.ticks + 1) (l := hput S.hand b) (r := S.recs) (hput_len ..) (given_len (S := { S with hand := hput S.hand b }) b w) (Nat.le_succ _)
  · exact z.wts (S.ticks + 1) (l := hput S.hand b) (o := S.outs) (hput_len ..) (Nat.le_succ _) (length_dput ..)
theorem HZ.added (z : HZ k S) (b : Th) (w : Int) : HZ (k + 1) (S.added b w) := z.wts (S.ticks + 1) (l := S.hand) (o := S.outs) (Nat.le_succ _) (Nat.le_succ _) (length_dput ..)
theorem HZ.given (z : HZ k S) (b : Th) (w : Int) : HZ (k + 1) (S.given b w) := z.wts (S.ticks + 1) (l := S.hand) (r := S.recs) (Nat.le_succ _) (given_len b w) (Nat.le_succ _)
theorem HZ.passed (z : HZ k S) (b : Th) (share : Int) (m : Bool) : HZ (k + 1) (S.passed b share m) := by
  unfold Hs.passed
  split
  · exact z.wts (S.ticks + 1) (l := hput S.hand b) (r := S.recs) (hput_len ..) (length_dput ..) (Nat.le_succ _)
  · exact z.wts (S.ticks + 1) (l := S.hand) (r := S.recs) (Nat.le_succ _) (length_dput ..) (Nat.le_succ _)
end
section
variable {k : Nat} {M M1 M' : Wd} {h : Int} {S' : Hs} {out nw : List Lt}
theorem Sz.mono {j : Nat} (z : Sz k M) (e : k ≤ j) : Sz j M where
  hn := z.hn
  hs := fun i hi => (z.hs i hi).mono e
  ly := by have := z.ly; omega
  la := by have := z.la; omega
  as_ := Nat.le_trans z.as_ e
  an := Nat.le_trans z.an e
  dn := Nat.le_trans z.dn e
  qs := fun q hq => by
    obtain ⟨a, b, c, d⟩ := z.qs q hq
    exact ⟨Nat.le_trans a e, Nat.le_trans b e, Nat.le_trans c e, fun x hx => (d x hx).mono e⟩
  st := fun x hx => (z.st x hx).mono e
  dl := fun x hx => by
    obtain ⟨a, b⟩ := z.dl x hx
    exact ⟨by omega, fun t ht => ⟨(b t ht).1, (b t ht).2.1, by have := (b t ht).2.2; omega⟩⟩
/-- what is put lengthens the letters alone -/
theorem sz_puts {X : Wd} (z : Sz (k + 1) { X with last := 0, lying := [] }) (ly : X.lying.length ≤ 100 * k) (la : X.last ≤ 100 * (k : Int)) (nk : NK X) (hn : nw.length ≤ 100) : Sz (k + 1) (X.puts nw) := by
  have p := puts_ok nw nk
  exact {
    hn := by rw [p.hs]; exact z.hn
    hs := by rw [p.hs]; exact z.hs
    ly := by rw [p.ly]; omega
    la := by rw [p.la]; omega
    as_ := by rw [p.as_]; exact z.as_
    an := by rw [p.an]; exact z.an
    dn := by rw [p.dn]; exact z.dn
    qs := by rw [p.as_]; exact z.qs
    st := by rw [p.an]; exact z.st
    dl := by rw [p.dn]; exact z.dl }
theorem sz_set (z : Sz k M) (L : Less M M1 out) (ih : isH M.hs h) (hS : HZ (k + 1) S') (hn : nw.length ≤ 100) : Sz (k + 1) ((M1.set h S').puts nw) := by
  have z' := z.mono (Nat.le_succ k)
  refine sz_puts (X := M1.set h S') ?_ (Nat.le_trans L.ly z.ly) (by rw [show (M1.set h S').last = M1.last from rfl, L.la]; exact z.la) ⟨L.nk.nd, L.nk.le, L.nk.l0⟩ hn
  exact {
    hn := by show (M1.hs.set _ _).length ≤ 4; rw [List.length_set, L.hs]; exact z.hn
    hs := fun j hj => by
      have hj : isH (setH M1.hs h S') j := hj
      rw [L.hs] at hj
      have hi := isH_set.mp hj
      show HZ (k + 1) (atH (setH M1.hs h S') j)
      rw [L.hs, atH_set ih hi]
      split
      · exact hS
      · exact z'.hs j hi
    ly := Nat.zero_le _
    la := by show (0 : Int) ≤ _; omega
    as_ := by show M1.asked.length ≤ _; rw [L.as_]; exact z'.as_
    an := by show M1.answers.length ≤ _; rw [L.an]; exact z'.an
    dn := by show M1.done.length ≤ _; rw [L.dn]; exact z'.dn
    qs := by show ∀ q ∈ M1.asked, _; rw [L.as_]; exact z'.qs
    st := by show ∀ q ∈ M1.answers, _; rw [L.an]; exact z'.st
    dl := by show ∀ q ∈ M1.done, _; rw [L.dn]; exact z'.dl }
theorem sz_back {p : Int → Bool} (z : Sz k M) (hk : k ≤ 90) (L : Less M M1 out) (ih : isH M.hs h) : Sz (k + 1) (M1.giveBack h ((atH M.hs h).only p)) := by
  refine sz_set z L ih (((z.hs h ih).only p).back.mono (Nat.le_succ k)) ?_
  show (backLts _ _).length ≤ 100
  unfold backLts
  rw [List.length_map]
  have := back_len (S := (atH M.hs h).only p)
  have := ((z.hs h ih).only p).hr
  omega
theorem sz_make {t : Th} (w : WC M) (z : Sz k M) (e : M.make h = .ok (M', t)) : Sz (k + 1) M' := by
  unfold Wd.make at e
  split at e
  · rename_i q
    cases e
    exact sz_set (nw := []) z (less_refl w.2.1) (isH_iff.mp q) (z.hs h (isH_iff.mp q)).make (Nat.zero_le _)
  · cases e
theorem sz_act {f : Hs → Except Er Hs} (w : WC M) (z : Sz k M) (e : M.act h f = .ok M') (hf : ∀ S', f (atH M.hs h) = .ok S' → HZ k (atH M.hs h) → HZ (k + 1) S') : Sz (k + 1) M' := by
  unfold Wd.act at e
  split at e
  · rename_i q
    split at e
    · rename_i S' es
      cases e
      exact sz_set (nw := []) z (less_refl w.2.1) (isH_iff.mp q) (hf S' es (z.hs h (isH_iff.mp q))) (Nat.zero_le _)
    · cases e
  · cases e
theorem sz_send {g : Int} {b : Th} (w : WC M) (z : Sz k M) (e : M.send h g b = .ok M') : Sz (k + 1) M' := by
  unfold Wd.send at e
  split at e
  · rename_i q
    split at e
    · split at e
      · cases e
      · rename_i S' wv es
        cases e
        exact sz_set (nw := [_]) z (less_refl w.2.1) (isH_iff.mp q) ((z.hs h (isH_iff.mp q)).part es) (show 1 ≤ 100 by decide)
    · cases e
  · cases e
theorem sz_clean {ns : List Int} (w : WC M) (z : Sz k M) (hk : k ≤ 90) (e : M.clean h = .ok (M', ns)) : Sz (k + 1) M' := by
  unfold Wd.clean at e
  split at e
  · rename_i q
    cases e
    exact sz_back z hk (less_refl w.2.1) (isH_iff.mp q)
  · cases e
theorem sz_ask (w : WC M) (z : Sz k M) (e : M.ask h = .ok M') : Sz (k + 1) M' := by
  unfold Wd.ask at e
  split at e
  · cases e
    have z' := z.mono (Nat.le_succ k)
    refine sz_puts (X := { M with asked := M.asked ++ [Inq.new] }) ?_ z.ly z.la ⟨w.2.1.nd, w.2.1.le, w.2.1.l0⟩ (by unfold askLts; rw [List.length_map, len_hss]; have := z.hn; omega)
    exact {
      hn := z.hn
      hs := z'.hs
      ly := Nat.zero_le _
      la := by show (0 : Int) ≤ _; omega
      as_ := by show (M.asked ++ [Inq.new]).length ≤ _; rw [List.length_append]; have := z.as_; simp; omega
      an := z'.an
      dn := z'.dn
      qs := fun q hq => by
        rcases List.mem_append.mp hq with hq | hq
        · exact z'.qs q hq
        · rcases List.mem_singleton.mp hq with rfl
          exact ⟨Nat.zero_le _, Nat.zero_le _, Nat.zero_le _, fun e he => nomatch he⟩
      st := z'.st
      dl := z'.dl }
  · cases e
theorem szt_state (c : WC M) (z : Sz k M) {j : Int} (hj : isH M.hs j) : SZt k ((atH M.hs j).state j) := by
  have zz := z.hs j hj
  have hL := c.1.hl j hj
  have e1 : (sortT (atH M.hs j).hand).length = (atH M.hs j).hand.length := List.length_mergeSort ..
  have e2 : (sortT (keys (atH M.hs j).recs)).length = (keys (atH M.hs j).recs).length := List.length_mergeSort ..
  have e3 : (keys (atH M.hs j).recs).length = (atH M.hs j).recs.length := List.length_map ..
  have e4 : (sortI (keys (atH M.hs j).holding)).length = (keys (atH M.hs j).holding).length := List.length_mergeSort ..
  have e5 : (keys (atH M.hs j).holding).length = (atH M.hs j).holding.length := List.length_map ..
  exact {
    hd := by show (sortT (atH M.hs j).hand).length ≤ k; rw [e1]; exact zz.hd
    rc := by show ((sortT (keys (atH M.hs j).recs)).map _).length ≤ k; rw [List.length_map, e2, e3]; exact zz.hr
    th := by show ((sortI (keys (atH M.hs j).holding)).map _).length ≤ k; rw [List.length_map, e4, e5]; exact zz.hg
    inn := fun e he => by
      obtain ⟨n, hn, rfl⟩ := List.mem_map.mp he
      have e6 : (sortT ((dget (atH M.hs j).holding n).getD [])).length = ((dget (atH M.hs j).holding n).getD []).length := List.length_mergeSort ..
      show (sortT ((dget (atH M.hs j).holding n).getD [])).length ≤ k
      rw [e6]
      obtain ⟨l, el⟩ := dget_some (mem_sortI.mp hn)
      rw [el]
      exact zz.inn _ (dget_mem el)
    sm := fun e he => by
      obtain ⟨n, hn, rfl⟩ := List.mem_map.mp he
      have h1 := hL.num n (mem_sortI.mp hn)
      have h2 := zz.md
      have h3 := z.hn
      have h4 := hj.1
      have h5 := hj.2
      refine ⟨⟨h4, ?_⟩, h1.1, ?_⟩
      · show j < 4; omega
      · show n < (k : Int); omega }
/-- states that were told -/
structure SZs (k : Nat) (s : Sts) : Prop where
  ln : s.length ≤ 4
  ok : ∀ e ∈ s, SZt k e.2
theorem flat_len {α β : Type} {f : α → List β} {k : Nat} : ∀ {l : List α}, (∀ x ∈ l, (f x).length ≤ k) → (l.flatMap f).length ≤ l.length * k
  | [], _ => Nat.zero_le _
  | x :: l, h => by
    rw [List.flatMap_cons, List.length_append, List.length_cons, Nat.succ_mul]
    have h1 := h x (List.mem_cons_self ..)
    have h2 := flat_len fun y hy => h y (List.mem_cons_of_mem _ hy)
    omega
theorem SZs.th {s : Sts} (h : SZs k s) : (allThings s).length ≤ 4 * k := Nat.le_trans (flat_len fun e he => (h.ok e he).th) (Nat.mul_le_mul_right k h.ln)
theorem SZs.hd {s : Sts} (h : SZs k s) : (s.flatMap fun e => e.2.hand).length ≤ 4 * k := Nat.le_trans (flat_len fun e he => (h.ok e he).hd) (Nat.mul_le_mul_right k h.ln)
theorem SZs.rc {s : Sts} (h : SZs k s) : (s.flatMap fun e => e.2.recs).length ≤ 4 * k := Nat.le_trans (flat_len fun e he => (h.ok e he).rc) (Nat.mul_le_mul_right k h.ln)
theorem SZs.of {Q : Inq} {n : Nat} (hn : n ≤ 4) (p : Int → Bool) (h : ∀ e ∈ Q.states, SZt k e.2) : SZs k (toldBy p Q n) where
  ln := by
    refine Nat.le_trans (List.length_filterMap_le ..) (Nat.le_trans (List.length_filter_le ..) ?_)
    rw [len_hss]; exact hn
  ok := fun e he => by
    obtain ⟨j, _, q⟩ := List.mem_filterMap.mp he
    obtain ⟨s, es, rfl⟩ := Option.map_eq_some_iff.mp q
    exact h _ (dget_mem es)
theorem fold_put_len {κ β α : Type} [DecidableEq κ] (f : α → κ) (g : α → β) : ∀ (l : List α) (d : List (κ × β)), (l.foldl (fun d x => dput d (f x) (g x)) d).length ≤ d.length + l.length
  | [], d => Nat.le_refl _
  | x :: l, d => by
    have h1 := fold_put_len f g l (dput d (f x) (g x))
    have h2 := length_dput d (f x) (g x)
    simp only [List.foldl_cons, List.length_cons]
    omega
theorem SZs.un {s : Sts} (h : SZs k s) : (unreached s).length ≤ 4 * k ∧ ∀ t ∈ unreached s, (0 ≤ t.1 ∧ t.1 < 4) ∧ 0 ≤ t.2 ∧ t.2 < (k : Int) := by
  constructor
  · have h1 : (unreached s).length = ((keys (holdsOf s)).filter fun t => decide (t ∉ reachedFrom (rootsOf s) (holdsOf s))).length := List.length_mergeSort ..
    have h2 := List.length_filter_le (fun t => decide (t ∉ reachedFrom (rootsOf s) (holdsOf s))) (keys (holdsOf s))
    have h3 : (keys (holdsOf s)).length = (holdsOf s).length := List.length_map ..
    have h4 : (holdsOf s).length ≤ 0 + (allThings s).length := fold_put_len (fun x : Th × Int × List Th => x.1) (fun x => x.2.2) (allThings s) []
    have h5 := h.th
    omega
  · intro t ht
    have hk := (List.mem_filter.mp (mem_sortT.mp ht)).1
    rcases (fold_put_keys (fun x : Th × Int × List Th => x.1) (fun _ x => x.2.2) t (allThings s) []).mp hk with z | ⟨x, hx, rfl⟩
    · cases z
    · obtain ⟨e, he, hx⟩ := List.mem_flatMap.mp hx
      exact (h.ok e he).sm x hx
theorem ddrop_len {κ β : Type} [DecidableEq κ] (d : List (κ × β)) (a : κ) : (ddrop d a).length ≤ d.length := List.length_filter_le ..
theorem inq_mem {q : Int} : M.inqAt q ∈ M.asked ∨ M.inqAt q = Inq.new := by
  unfold Wd.inqAt
  rw [List.getD_eq_getElem?_getD]
  rcases e : M.asked[(q - 1).toNat]? with _ | x
  · exact .inr rfl
  · exact .inl (List.mem_of_getElem? e)
theorem sz_inq (z : Sz k M) (q : Int) : (M.inqAt q).ticks.length ≤ k ∧ (M.inqAt q).states.length ≤ k ∧ (M.inqAt q).again.length ≤ k ∧ ∀ e ∈ (M.inqAt q).states, SZt k e.2 := by
  rcases inq_mem (M := M) (q := q) with h | h
  · exact z.qs _ h
  · rw [h]; exact ⟨Nat.zero_le _, Nat.zero_le _, Nat.zero_le _, fun e he => nomatch he⟩
theorem mem_set' {α : Type} {l : List α} {i : Nat} {x y : α} (h : y ∈ l.set i x) : y ∈ l ∨ y = x := by
  rcases List.mem_or_eq_of_mem_set h with h | h
  · exact .inl h
  · exact .inr h
theorem sz_come {n : Int} {ns : List Int} (w : WC M) (i : IQ M) (z : Sz k M) (hk : k ≤ 90) (e : M.come n = .ok (M', ns)) : Sz (k + 1) M' := by
  have z' := z.mono (Nat.le_succ k)
  unfold Wd.come at e
  split at e
  · cases e
  · rename_i l el
    cases e
    have L := less_drop w.2.1 el
    have hlm : l ∈ lts M := lts_mem (dget_mem el)
    obtain ⟨is, ig, _⟩ := w.1.lt l hlm
    have zg := z.hs _ ig
    have ll : (ddrop M.lying n).length ≤ 100 * k := Nat.le_trans (ddrop_len ..) z.ly
    unfold Wd.arrive
    rcases ea : l.ab with ⟨q, t⟩ | ⟨q, t⟩ | ⟨b, wv⟩ | ⟨b, g⟩ | ⟨b, wv⟩ | ⟨b, wv⟩ | ts
    · have pk := puts_ok [⟨l.goal, l.sender, .ans q t⟩] L.nk
      exact {
        hn := z.hn
        hs := z'.hs
        ly := by
          have := pk.ly
          show (Wd.puts { M with lying := ddrop M.lying n } [⟨l.goal, l.sender, .ans q t⟩]).lying.length ≤ _
          rw [this]
          show (ddrop M.lying n).length + 1 ≤ _
          omega
        la := by show M.last + 1 ≤ _; have := z.la; omega
        as_ := z'.as_
        an := by
          show (dput M.answers (M.last + 1) _).length ≤ _
          have := length_dput M.answers (M.last + 1) ((atH M.hs l.goal).ticks, (atH M.hs l.goal).state l.goal)
          have := z.an
          exact Nat.le_trans ‹_› (by omega)
        dn := z'.dn
        qs := z'.qs
        st := fun e he => by
          rcases dput_mem (show e ∈ dput M.answers (M.last + 1) ((atH M.hs l.goal).ticks, (atH M.hs l.goal).state l.goal) from he) with he | he
          · exact z'.st e he
          · rw [he]; exact (szt_state w z ig).mono (Nat.le_succ k)
        dl := z'.dl }
    · obtain ⟨tk, st, ed, _⟩ := i.aa _ (dget_mem el) q t ea
      have ed : dget M.answers n = some (tk, st) := ed
      obtain ⟨q1, q2, q3, q4⟩ := sz_inq z q
      have zst : SZt (k + 1) st := (z.st _ (dget_mem ed)).mono (Nat.le_succ k)
      have key : ∀ (x : Inq) (dn : List (Int × List Th)) (nw : List Lt), (x.ticks.length ≤ k + 1 ∧ x.states.length ≤ k + 1 ∧ x.again.length ≤ k + 1 ∧ ∀ e ∈ x.states, SZt (k + 1) e.2) →
          dn.length ≤ k + 1 → (∀ e ∈ dn, e.2.length ≤ 4 * (k + 1) ∧ ∀ t ∈ e.2, (0 ≤ t.1 ∧ t.1 < 4) ∧ 0 ≤ t.2 ∧ t.2 < ((k + 1 : Nat) : Int)) → nw.length ≤ 100 →
          Sz (k + 1) (({ M with lying := ddrop M.lying n, answers := ddrop M.answers n, asked := M.asked.set (q - 1).toNat x, done := dn } : Wd).puts nw) := by
        intro x dn nw h1 h2 h3 h4
        refine sz_puts ?_ ll z.la ⟨L.nk.nd, L.nk.le, L.nk.l0⟩ h4
        exact {
          hn := z.hn
          hs := z'.hs
          ly := Nat.zero_le _
          la := by show (0 : Int) ≤ _; omega
          as_ := by show (M.asked.set _ _).length ≤ _; rw [List.length_set]; exact z'.as_
          an := Nat.le_trans (ddrop_len ..) z'.an
          dn := h2
          qs := fun y hy => by
            rcases mem_set' hy with hy | rfl
            · exact z'.qs y hy
            · exact h1
          st := fun e he => z'.st e (mem_ddrop he).1
          dl := h3 }
      show Sz (k + 1) (Wd.heard { M with lying := ddrop M.lying n } n l.sender l.goal q t).1
      unfold Wd.heard
      rw [show dget (Wd.answers { M with lying := ddrop M.lying n }) n = some (tk, st) from ed]
      simp only
      have f1 := length_dput (M.inqAt q).ticks l.sender tk
      have f2 := length_dput (M.inqAt q).states l.sender st
      have f3 := length_dput (M.inqAt q).again l.sender tk
      have x1 : (dput (M.inqAt q).ticks l.sender tk).length ≤ k + 1 ∧ (dput (M.inqAt q).states l.sender st).length ≤ k + 1 ∧ (M.inqAt q).again.length ≤ k + 1 ∧ ∀ e ∈ dput (M.inqAt q).states l.sender st, SZt (k + 1) e.2 :=
        ⟨by omega, by omega, by omega, fun e he => by
          rcases dput_mem he with he | he
          · exact (q4 e he).mono (Nat.le_succ k)
          · rw [he]; exact zst⟩
      have x2 : (M.inqAt q).ticks.length ≤ k + 1 ∧ (M.inqAt q).states.length ≤ k + 1 ∧ (dput (M.inqAt q).again l.sender tk).length ≤ k + 1 ∧ ∀ e ∈ (M.inqAt q).states, SZt (k + 1) e.2 :=
        ⟨by omega, by omega, by omega, fun e he => (q4 e he).mono (Nat.le_succ k)⟩
      by_cases ht : t = 1
      · rw [if_pos ht]
        by_cases hlen : (dput (M.inqAt q).ticks l.sender tk).length = M.hs.length
        · rw [if_pos (show (dput (Wd.inqAt { M with lying := ddrop M.lying n } q).ticks l.sender tk).length = M.hs.length from hlen)]
          exact key { M.inqAt q with ticks := dput (M.inqAt q).ticks l.sender tk, states := dput (M.inqAt q).states l.sender st } M.done (askLts l.goal M.hs.length q 2) x1 z'.dn z'.dl (by unfold askLts; rw [List.length_map, len_hss]; have := z.hn; omega)
        · rw [if_neg (show ¬ (dput (Wd.inqAt { M with lying := ddrop M.lying n } q).ticks l.sender tk).length = M.hs.length from hlen)]
          exact key { M.inqAt q with ticks := dput (M.inqAt q).ticks l.sender tk, states := dput (M.inqAt q).states l.sender st } M.done [] x1 z'.dn z'.dl (Nat.zero_le _)
      · rw [if_neg ht]
        by_cases hlen : (dput (M.inqAt q).again l.sender tk).length = M.hs.length
        · rw [if_pos (show (dput (Wd.inqAt { M with lying := ddrop M.lying n } q).again l.sender tk).length = M.hs.length from hlen)]
          refine key { M.inqAt q with again := dput (M.inqAt q).again l.sender tk } (dput M.done q (Inq.result M.hs.length { M.inqAt q with again := dput (M.inqAt q).again l.sender tk })) (letLts l.goal M.hs.length (Inq.result M.hs.length { M.inqAt q with again := dput (M.inqAt q).again l.sender tk })) x2 ?_ (fun e he => ?_) (by unfold letLts; rw [List.length_map, len_hss]; have := z.hn; omega)
          · have := length_dput M.done q (Inq.result M.hs.length { M.inqAt q with again := dput (M.inqAt q).again l.sender tk })
            have := z.dn
            exact Nat.le_trans ‹_› (by omega)
          · rcases dput_mem he with he | he
            · exact z'.dl e he
            · rw [he]
              have := (SZs.of (k := k) (Q := { M.inqAt q with again := dput (M.inqAt q).again l.sender tk }) z.hn (fun h => decide (dget (M.inqAt q).ticks h = dget (dput (M.inqAt q).again l.sender tk) h)) q4).un
              obtain ⟨a, b⟩ := this
              exact ⟨Nat.le_trans a (by omega), fun t ht => ⟨(b t ht).1, (b t ht).2.1, by have := (b t ht).2.2; omega⟩⟩
        · rw [if_neg (show ¬ (dput (Wd.inqAt { M with lying := ddrop M.lying n } q).again l.sender tk).length = M.hs.length from hlen)]
          exact key { M.inqAt q with again := dput (M.inqAt q).again l.sender tk } M.done [] x2 z'.dn z'.dl (Nat.zero_le _)
    · exact sz_set (nw := []) z L ig (zg.came b wv) (Nat.zero_le _)
    · show Sz (k + 1) (Wd.passedOn { M with lying := ddrop M.lying n } l.sender l.goal b g).1
      have h1 : ∀ nw : List Lt, nw.length ≤ 100 → Sz (k + 1) (((Wd.set { M with lying := ddrop M.lying n } l.goal ((atH M.hs l.goal).passed b M.share (decide (g = l.goal))))).puts nw) := fun nw hn => sz_set z L ig (zg.passed b M.share (decide (g = l.goal))) hn
      unfold Wd.passedOn
      by_cases y : g = l.goal
      · simp only [if_pos y]
        exact h1 [_] (show 1 ≤ 100 by decide)
      · simp only [if_neg y]
        exact h1 [_, _] (show 2 ≤ 100 by decide)
    · exact sz_set (nw := []) z L ig (zg.added b wv) (Nat.zero_le _)
    · exact sz_set (nw := []) z L ig (zg.given b wv) (Nat.zero_le _)
    · exact sz_back (p := fun n => decide (n ∉ ts.map (·.2))) z hk L ig
end
/-! ### all together -/
structure SI (k : Nat) (M : Wd) : Prop where
  wc : WC M
  iq : IQ M
  sz : Sz k M
theorem at_new {n : Nat} {j : Int} (h : isH (List.replicate n Hs.new) j) : atH (List.replicate n Hs.new) j = Hs.new := by
  obtain ⟨h1, h2⟩ := h
  rw [List.length_replicate] at h2
  unfold atH
  rw [List.getD_eq_getElem?_getD, List.getElem?_replicate]
  split <;> rfl
theorem si_new {n : Nat} {share : Int} (hn : n ≤ 4) (hw : 1 ≤ share) : SI 0 (Wd.new n share) := by
  have ha : ∀ j, isH (List.replicate n Hs.new) j → atH (List.replicate n Hs.new) j = Hs.new := fun j h => at_new h
  have hno : ∀ x, ¬ There (List.replicate n Hs.new) x := fun x ⟨h1, h2⟩ => by rw [ha _ h1] at h2; cases h2
  exact {
    wc := ⟨{
        hl := fun j hj => by show HL j (atH (List.replicate n Hs.new) j); rw [ha j hj]; exact HL.new j
        ht := fun j hj b hb => by have hb : b ∈ (atH (List.replicate n Hs.new) j).hand := hb; rw [ha j hj] at hb; cases hb
        hd := fun x hx => absurd hx (hno x)
        hm := fun x hx => absurd hx (hno x)
        rm := fun j hj b hb => by have hb : b ∈ keys (atH (List.replicate n Hs.new) j).recs := hb; rw [ha j hj] at hb; cases hb
        bal := fun x hx => absurd hx (hno x)
        zr := fun j hj b hb => by have hb : dget (atH (List.replicate n Hs.new) j).recs b = some 0 := hb; rw [ha j hj] at hb; cases hb
        lt := fun l hl => nomatch hl }, ⟨List.nodup_nil, (fun n hn => nomatch hn), Int.le_refl 0⟩, hw⟩
    iq := ⟨fun q h1 h2 => by have h2 : q ≤ 0 := h2; omega, (fun l hl => nomatch hl), fun e he => nomatch he⟩
    sz := {
      hn := by show (List.replicate n Hs.new).length ≤ 4; rw [List.length_replicate]; exact hn
      hs := fun j hj => by
        show HZ 0 (atH (List.replicate n Hs.new) j)
        rw [ha j hj]
        exact ⟨Int.le_refl 0, Nat.le_refl 0, Nat.le_refl 0, Nat.le_refl 0, Nat.le_refl 0, fun e he => nomatch he⟩
      ly := Nat.le_refl 0
      la := Int.le_refl 0
      as_ := Nat.le_refl 0
      an := Nat.le_refl 0
      dn := Nat.le_refl 0
      qs := fun q hq => nomatch hq
      st := fun q hq => nomatch hq
      dl := fun q hq => nomatch hq } }
section
variable {k : Nat} {M M' : Wd} {h : Int}
theorem SI.mono {j : Nat} (s : SI k M) (e : k ≤ j) : SI j M := ⟨s.wc, s.iq, s.sz.mono e⟩
theorem SI.good (s : SI k M) (g : Good M M') (z : Sz (k + 1) M') : SI (k + 1) M' := ⟨g.1, iq_ta s.wc s.iq g.2, z⟩
theorem SI.make {t : Th} (s : SI k M) (e : M.make h = .ok (M', t)) : SI (k + 1) M' := s.good (good_make s.wc e) (sz_make s.wc s.sz e)
theorem SI.hold {a b : Th} (s : SI k M) (e : M.hold h a b = .ok M') : SI (k + 1) M' := s.good (good_hold s.wc e) (sz_act s.wc s.sz e fun S' es z => z.hold es)
theorem SI.drop {a b : Th} (s : SI k M) (e : M.drop h a b = .ok M') : SI (k + 1) M' := s.good (good_drop s.wc e) (sz_act s.wc s.sz e fun S' es z => z.drop es)
theorem SI.take {a b : Th} (s : SI k M) (e : M.take h a b = .ok M') : SI (k + 1) M' := s.good (good_take s.wc e) (sz_act s.wc s.sz e fun S' es z => z.take es)
theorem SI.free {b : Th} (s : SI k M) (e : M.free h b = .ok M') : SI (k + 1) M' := s.good (good_free s.wc e) (sz_act s.wc s.sz e fun S' es z => z.free es)
theorem SI.send {g : Int} {b : Th} (s : SI k M) (e : M.send h g b = .ok M') : SI (k + 1) M' := s.good (good_send s.wc e) (sz_send s.wc s.sz e)
theorem SI.clean {ns : List Int} (s : SI k M) (hk : k ≤ 90) (e : M.clean h = .ok (M', ns)) : SI (k + 1) M' := s.good (good_clean s.wc e) (sz_clean s.wc s.sz hk e)
theorem SI.ask (s : SI k M) (e : M.ask h = .ok M') : SI (k + 1) M' := by
  obtain ⟨a, b, _⟩ := iq_ask s.wc s.iq e
  exact ⟨a, b, sz_ask s.wc s.sz e⟩
theorem SI.come {n : Int} {ns : List Int} (s : SI k M) (hk : k ≤ 90) (e : M.come n = .ok (M', ns)) : SI (k + 1) M' := by
  obtain ⟨a, b, _⟩ := iq_come s.wc s.iq e
  exact ⟨a, b, sz_come s.wc s.iq s.sz hk e⟩
end
end Fm

set_option Elab.async false
set_option linter.all false
set_option maxRecDepth 100000
namespace Fm
section
variable {k : Nat} {M : Wd}
theorem at_of_some {j : Nat} {S : Hs} (e : M.hs[j]? = some S) : isH M.hs (j : Int) ∧ atH M.hs (j : Int) = S := by
  have hj : j < M.hs.length := by
    rcases Nat.lt_or_ge j M.hs.length with h | h
    · exact h
    · rw [List.getElem?_eq_none h] at e; cases e
  refine ⟨⟨by omega, by omega⟩, ?_⟩
  unfold atH
  rw [List.getD_eq_getElem?_getD, Int.toNat_natCast, e]
  rfl
theorem made_sm (s : SI k M) (hk : k ≤ 40) {b : Th} (h : Made M.hs b) : Sm b := by
  obtain ⟨h1, h2, h3⟩ := h
  have h4 := (s.sz.hs _ h1).md
  have h5 := s.sz.hn
  have h6 := h1.1
  have h7 := h1.2
  exact ⟨h6, by omega, h2, by omega⟩
theorem SI.wg (s : SI k M) (hk : k ≤ 40) : WG M where
  hs := fun j S e => by
    obtain ⟨hj, rfl⟩ := at_of_some e
    have hL := s.wc.1.hl _ hj
    have hz := s.sz.hs _ hj
    refine ⟨hL.hg, ⟨by have := hz.hd; omega, by have := hz.hg; omega, by have := hz.ho; omega, by have := hz.hr; omega, fun x hx => by have := hz.inn x hx; omega⟩, ?_⟩
    exact {
      hd := fun t ht => made_sm s hk (s.wc.1.made (s.wc.1.ht _ hj t ht))
      nh := hL.nh
      inn := fun x hx => by
        have ex := dget_of_mem hL.nd hx
        exact ⟨hL.ni _ _ ex, fun t ht => made_sm s hk (s.wc.1.hm ((j : Int), x.1) ⟨hj, mem_keys ex⟩ t ⟨x.2, ex, ht⟩)⟩
      rc := fun t ht => made_sm s hk (s.wc.1.rm _ hj t ht) }
  hn := s.sz.hn
  ly := by have := s.sz.ly; omega
  as_ := by have := s.sz.as_; omega
  an := by have := s.sz.an; omega
  dn := by have := s.sz.dn; omega
  qs := fun q hq => by
    obtain ⟨a, b, c, _⟩ := s.sz.qs q hq
    exact ⟨by omega, by omega, by omega⟩
theorem SI.arr (s : SI k M) (hk : k ≤ 40) {n : Int} {l : Lt} (e : dget M.lying n = some l) : ArrOk M n l := by
  have hm := dget_mem e
  have hlm : l ∈ lts M := lts_mem hm
  obtain ⟨is, ig, h3⟩ := s.wc.1.lt l hlm
  refine ⟨isH_iff.mpr ig, ?_⟩
  rcases el : l.ab with ⟨q, t⟩ | ⟨q, t⟩ | ⟨b, w⟩ | ⟨b, g⟩ | ⟨b, w⟩ | ⟨b, w⟩ | ts
  · trivial
  · obtain ⟨tk, st, ed, _⟩ := s.iq.aa _ hm q t el
    obtain ⟨q1, q2⟩ := s.iq.lq l hlm q t (.inr el)
    have hq := s.iq.qi q q1 q2
    refine ⟨⟨tk, st, ed⟩, q1, q2, fun tk' st' ed' ht hlen => ?_⟩
    have f : full M (M.inqAt q) := hq.gt (.inl ⟨l, hlm, by unfold twoL; rw [el]; exact ⟨rfl, ht⟩⟩)
    have nd : (keys (dput (M.inqAt q).again l.sender tk')).Nodup := nodup_dput hq.an
    have sub : ∀ x ∈ keys (dput (M.inqAt q).again l.sender tk'), x ∈ houses M.hs.length := fun x hx => by
      rcases mem_keys_dput.mp hx with rfl | hx
      · exact mem_hss.mpr is
      · exact mem_hss.mpr (hq.ah x hx)
    have hl2 : (houses M.hs.length).length ≤ (keys (dput (M.inqAt q).again l.sender tk')).length := by
      rw [len_hss, ← hlen]
      show _ ≤ ((dput (M.inqAt q).again l.sender tk').map (·.1)).length
      rw [List.length_map]
      exact Nat.le_refl _
    have all := pig nd sub hl2
    refine ⟨fun h hh => ⟨f h (mem_hss.mp hh), all h hh, by rw [← hq.ks]; exact f h (mem_hss.mp hh)⟩, ?_⟩
    obtain ⟨_, _, _, q4⟩ := sz_inq s.sz q
    have z : SZs k (({ M.inqAt q with again := dput (M.inqAt q).again l.sender tk' } : Inq).told M.hs.length) := SZs.of s.sz.hn _ q4
    have h1 := z.th
    have h2 := z.hd
    have h3 := z.rc
    exact ⟨by omega, by omega, by omega, fun e he => by
      obtain ⟨x, hx, he⟩ := List.mem_flatMap.mp he
      have := (z.ok x hx).inn e he
      omega⟩
  · trivial
  · rw [el] at h3
    obtain ⟨tb, hg, _⟩ := h3
    show b.2 ∈ keys (M.at l.goal).outs
    have hL := s.wc.1.hl _ ig
    show b.2 ∈ keys (atH M.hs l.goal).outs
    rw [hL.ko, hg]
    exact tb.2
  · trivial
  · trivial
  · trivial
end
end Fm
namespace Fh
open PySem PySem.Spec L2 FhR
open Fm (Th Hs StD Wd Er HG HB HSm Sts SZ Inq Lt Ab WG ArrOk SI)
theorem sm_nt {t : Th} (h : Fm.Sm t) : Nt t := by
  obtain ⟨a, b, c, d⟩ := h
  exact ⟨⟨a, by omega⟩, ⟨c, by omega⟩⟩
theorem si_wn {k : Nat} {M : Wd} (s : SI k M) (hk : k ≤ 40) : WN M where
  hn := fun j S e => by
    obtain ⟨hj, rfl⟩ := Fm.at_of_some e
    obtain ⟨_, _, hm⟩ := (s.wg hk).hs j _ e
    have hL := s.wc.1.hl _ hj
    have hz := (s.sz.hs _ hj).md
    have h4 := s.sz.hn
    have h5 := hj.2
    have hj0 : Nm ((j : Nat) : Int) := ⟨by omega, by omega⟩
    refine ⟨fun t ht => sm_nt (hm.hd t ht), fun n hn => ⟨hj0, ?_⟩, fun x hx t ht => sm_nt ((hm.inn x hx).2 t ht), hj0, ?_⟩
    · have := hL.num n hn
      exact ⟨this.1, by show n < _; omega⟩
    · exact ⟨hL.md, by show _ < (1000000000 : Int); omega⟩
  l0 := s.wc.2.1.l0
  l1 := by have := s.sz.la; omega
  ly := fun e he => by
    have h1 := s.wc.2.1.le _ (Fm.mem_keys_of he)
    have h2 := s.sz.la
    obtain ⟨is, ig, _⟩ := s.wc.1.lt _ (Fm.lts_mem he)
    have h3 := s.sz.hn
    obtain ⟨a, b⟩ := is
    obtain ⟨c, d⟩ := ig
    exact ⟨⟨by omega, by omega⟩, ⟨a, by omega⟩, ⟨c, by omega⟩⟩
  dn := fun e he => by
    obtain ⟨a, b⟩ := s.sz.dl e he
    refine ⟨by omega, fun t ht => ?_⟩
    obtain ⟨⟨c, d⟩, f, g⟩ := b t ht
    exact ⟨⟨c, by omega⟩, ⟨f, by omega⟩⟩
theorem si_row {k : Nat} {M : Wd} (s : SI k M) (hk : k ≤ 40) {r : Row} (h : r.ok) : RowOk M r := ⟨s.wg hk, si_wn s hk, h, fun n _ l e => s.arr hk e⟩
/-- every row keeps it -/
theorem si_ans {k : Nat} {M M' : Wd} {r : Row} {x : Str} (s : SI k M) (hk : k ≤ 40) (e : ansR M r = .ok (M', x)) : SI (k + 1) M' := by
  have hk9 : k ≤ 90 := by omega
  have d : ∀ {R : Except Er Wd} {y : Str}, ansD M R y = .ok (M', x) → R = .ok M' := fun {R y} h => by
    unfold ansD at h
    split at h
    · cases h; rfl
    · cases h
  have n : ∀ {R : Except Er (Wd × List Int)}, ansN R = .ok (M', x) → ∃ ns, R = .ok (M', ns) := fun {R} h => by
    unfold ansN at h
    split at h
    · cases h; exact ⟨_, rfl⟩
    · cases h
  have same : M' = M → SI (k + 1) M' := fun z => by rw [z]; exact s.mono (Nat.le_succ k)
  cases r with
  | make h =>
    simp only [ansR] at e
    split at e
    · rename_i M1 t em; cases e; exact s.make em
    · cases e
  | free h b => exact s.free (d e)
  | hold h a b => exact s.hold (d e)
  | drop h a b => exact s.drop (d e)
  | take h a b => exact s.take (d e)
  | send h g b => exact s.send (d e)
  | ask h => exact s.ask (d e)
  | clean h => obtain ⟨ns, z⟩ := n e; exact s.clean hk9 z
  | come m => obtain ⟨ns, z⟩ := n e; exact s.come hk9 z
  | post => simp only [ansR] at e; cases e; exact same rfl
  | holds a =>
    simp only [ansR] at e
    split at e
    · split at e
      · cases e; exact same rfl
      · cases e
    · cases e
  | hand h =>
    simp only [ansR] at e
    split at e
    · cases e; exact same rfl
    · cases e
  | things h =>
    simp only [ansR] at e
    split at e
    · cases e; exact same rfl
    · cases e
  | found m =>
    simp only [ansR] at e
    split at e
    · cases e; exact same rfl
    · cases e
end Fh

set_option Elab.async false
set_option linter.all false
set_option maxRecDepth 100000
namespace Fm
/-! ### how many houses and inquiries there are -/
theorem puts_keepA : ∀ (ls : List Lt) (M : Wd), (M.puts ls).asked = M.asked ∧ (M.puts ls).hs = M.hs
  | [], _ => ⟨rfl, rfl⟩
  | l :: ls, M => puts_keepA ls (M.put l)
theorem heard_len (M : Wd) (n s g q t : Int) : (M.heard n s g q t).1.asked.length = M.asked.length ∧ (M.heard n s g q t).1.hs.length = M.hs.length := by
  unfold Wd.heard
  split
  · exact ⟨rfl, rfl⟩
  · simp only
    split
    · split
      · rw [(puts_keepA _ _).1, (puts_keepA _ _).2]; exact ⟨List.length_set .., rfl⟩
      · exact ⟨List.length_set .., rfl⟩
    · split
      · rw [(puts_keepA _ _).1, (puts_keepA _ _).2]; exact ⟨List.length_set .., rfl⟩
      · exact ⟨List.length_set .., rfl⟩
theorem back_len2 (M : Wd) (h : Int) (S : Hs) : (M.giveBack h S).asked.length = M.asked.length ∧ (M.giveBack h S).hs.length = M.hs.length := by
  unfold Wd.giveBack
  rw [(puts_keepA _ _).1, (puts_keepA _ _).2]
  exact ⟨rfl, List.length_set ..⟩
theorem arrive_len (M : Wd) (n : Int) (l : Lt) : (M.arrive n l).1.asked.length = M.asked.length ∧ (M.arrive n l).1.hs.length = M.hs.length := by
  unfold Wd.arrive
  rcases l.ab with ⟨q, t⟩ | ⟨q, t⟩ | ⟨b, w⟩ | ⟨b, g⟩ | ⟨b, w⟩ | ⟨b, w⟩ | ts
  · exact ⟨rfl, rfl⟩
  · exact heard_len ..
  · exact ⟨rfl, List.length_set ..⟩
  · show (M.passedOn l.sender l.goal b g).1.asked.length = _ ∧ (M.passedOn l.sender l.goal b g).1.hs.length = _
    unfold Wd.passedOn
    simp only
    split
    · exact ⟨rfl, List.length_set ..⟩
    · exact ⟨rfl, List.length_set ..⟩
  · exact ⟨rfl, List.length_set ..⟩
  · exact ⟨rfl, List.length_set ..⟩
  · exact back_len2 ..
theorem act_len {M M' : Wd} {h : Int} {f : Hs → Except Er Hs} (e : M.act h f = .ok M') : M'.asked.length = M.asked.length ∧ M'.hs.length = M.hs.length := by
  unfold Wd.act at e
  split at e
  · split at e
    · cases e; exact ⟨rfl, List.length_set ..⟩
    · cases e
  · cases e
end Fm
namespace Fh
open PySem PySem.Spec L2 FhR TL
open Fm (Th Hs StD Wd Er HG HB HSm Sts SZ Inq Lt Ab WG ArrOk SI)
def isAskR : Row → Bool
  | .ask _ => true
  | _ => false
theorem ans_keep {M M' : Wd} {r : Row} {x : Str} (e : ansR M r = .ok (M', x)) : M'.hs.length = M.hs.length ∧ M'.asked.length = M.asked.length + (if isAskR r = true then 1 else 0) := by
  have d : ∀ {R : Except Er Wd} {y : Str}, ansD M R y = .ok (M', x) → R = .ok M' := fun {R y} h => by
    unfold ansD at h
    split at h
    · cases h; rfl
    · cases h
  have n : ∀ {R : Except Er (Wd × List Int)}, ansN R = .ok (M', x) → ∃ ns, R = .ok (M', ns) := fun {R} h => by
    unfold ansN at h
    split at h
    · cases h; exact ⟨_, rfl⟩
    · cases h
  cases r with
  | make h =>
    simp only [ansR] at e
    split at e
    · rename_i M1 t em
      cases e
      unfold Wd.make at em
      split at em
      · cases em; exact ⟨List.length_set .., rfl⟩
      · cases em
    · cases e
  | free h b => exact ⟨(Fm.act_len (d e)).2, (Fm.act_len (d e)).1⟩
  | hold h a b => exact ⟨(Fm.act_len (d e)).2, (Fm.act_len (d e)).1⟩
  | drop h a b => exact ⟨(Fm.act_len (d e)).2, (Fm.act_len (d e)).1⟩
  | take h a b => exact ⟨(Fm.act_len (d e)).2, (Fm.act_len (d e)).1⟩
  | send h g b =>
    have e := d e
    unfold Wd.send at e
    split at e
    · split at e
      · split at e
        · cases e
        · cases e; exact ⟨List.length_set .., rfl⟩
      · cases e
    · cases e
  | ask h =>
    have e := d e
    unfold Wd.ask at e
    split at e
    · cases e
      rw [(Fm.puts_keepA _ _).1, (Fm.puts_keepA _ _).2]
      exact ⟨rfl, by show (M.asked ++ [Inq.new]).length = _; rw [List.length_append]; rfl⟩
    · cases e
  | clean h =>
    obtain ⟨ns, e⟩ := n e
    unfold Wd.clean at e
    split at e
    · cases e; exact ⟨(Fm.back_len2 ..).2, (Fm.back_len2 ..).1⟩
    · cases e
  | come m =>
    obtain ⟨ns, e⟩ := n e
    unfold Wd.come at e
    split at e
    · cases e
    · cases e; exact ⟨(Fm.arrive_len ..).2, (Fm.arrive_len ..).1⟩
  | post => simp only [ansR] at e; cases e; exact ⟨rfl, rfl⟩
  | holds a =>
    simp only [ansR] at e
    split at e
    · split at e
      · cases e; exact ⟨rfl, rfl⟩
      · cases e
    · cases e
  | hand h =>
    simp only [ansR] at e
    split at e
    · cases e; exact ⟨rfl, rfl⟩
    · cases e
  | things h =>
    simp only [ansR] at e
    split at e
    · cases e; exact ⟨rfl, rfl⟩
    · cases e
  | found m =>
    simp only [ansR] at e
    split at e
    · cases e; exact ⟨rfl, rfl⟩
    · cases e
/-! ### texts that are asked for are texts -/
theorem okS_join : ∀ {xs : List Str}, (∀ x ∈ xs, okS x) → ∀ c ∈ joinL [32] (xs.map tl), c < 1114112
  | [], _ => fun c hc => nomatch hc
  | [x], h => fun c hc => h x (List.mem_cons_self ..) c hc
  | x :: y :: xs, h => fun c hc => by
    have hc : c ∈ tl x ++ ([32] ++ joinL [32] ((y :: xs).map tl)) := hc
    rcases List.mem_append.mp hc with hc | hc
    · exact h x (List.mem_cons_self ..) c hc
    · rcases List.mem_append.mp hc with hc | hc
      · rcases List.mem_singleton.mp hc with rfl; decide
      · exact okS_join (fun z hz => h z (List.mem_cons_of_mem _ hz)) c hc
theorem okS_list {xs : List Str} (h : ∀ x ∈ xs, okS x) : okS (listS xs) := by
  unfold listS
  split
  · exact okS_of (by decide +kernel)
  · intro c hc
    rw [join_eq, tl_join, spL] at hc
    exact okS_join h c hc
end Fh

set_option Elab.async false
set_option linter.all false
set_option maxRecDepth 100000
set_option maxHeartbeats 4000000
namespace Fh
open PySem PySem.Spec L2 FhR FhH L2H
open Fm (Th Hs StD Wd Er HG HB HSm Sts SZ Inq Lt Ab WG ArrOk SI)
/-! ### rows that ask change nothing, and their answers are texts -/
theorem ansQ {M M' : Wd} {r : Row} {x : Str} (wg : WG M) (wn : WN M) (hq : isQ r = true) (e : ansR M r = .ok (M', x)) : M' = M ∧ okS x := by
  cases r with
  | make _ => exact (Bool.false_ne_true hq).elim
  | free _ _ => exact (Bool.false_ne_true hq).elim
  | hold _ _ _ => exact (Bool.false_ne_true hq).elim
  | drop _ _ _ => exact (Bool.false_ne_true hq).elim
  | take _ _ _ => exact (Bool.false_ne_true hq).elim
  | send _ _ _ => exact (Bool.false_ne_true hq).elim
  | ask _ => exact (Bool.false_ne_true hq).elim
  | clean _ => exact (Bool.false_ne_true hq).elim
  | come _ => exact (Bool.false_ne_true hq).elim
  | post =>
    simp only [ansR] at e
    cases e
    refine ⟨rfl, okS_list fun x hx => ?_⟩
    obtain ⟨l, hl, rfl⟩ := List.mem_map.mp hx
    obtain ⟨h1, h2, h3⟩ := letters_n wn l hl
    exact okS_lt h1 h2 h3
  | holds a =>
    simp only [ansR] at e
    split at e
    · rename_i hi
      unfold holdsAns at e
      split at e
      · rename_i y ey
        cases e
        split at ey
        · rename_i z ez
          cases ey
          refine ⟨rfl, okS_list fun x hx => ?_⟩
          obtain ⟨t, ht, rfl⟩ := List.mem_map.mp hx
          exact okS_th ((st_thing_n wn hi (List.mem_of_find?_eq_some ez)).2 t ht)
        · cases ey
      · cases e
    · cases e
  | hand h =>
    simp only [ansR] at e
    split at e
    · rename_i hi
      cases e
      refine ⟨rfl, okS_list fun x hx => ?_⟩
      obtain ⟨t, ht, rfl⟩ := List.mem_map.mp hx
      exact okS_th ((wn.hn _ _ (Fm.at_of hi)).1 t (st_hand ht))
    · cases e
  | things h =>
    simp only [ansR] at e
    split at e
    · rename_i hi
      cases e
      refine ⟨rfl, okS_list fun x hx => ?_⟩
      obtain ⟨t, ht, rfl⟩ := List.mem_map.mp hx
      exact okS_th (st_thing_n wn hi ht).1
    · cases e
  | found n =>
    simp only [ansR] at e
    split at e
    · rename_i ts et
      cases e
      refine ⟨rfl, okS_list fun x hx => ?_⟩
      obtain ⟨t, ht, rfl⟩ := List.mem_map.mp hx
      unfold Wd.inquiry at et
      split at et
      · cases et
        cases ed : Fm.dget M.done n with
        | none => rw [ed] at ht; cases ht
        | some us => rw [ed] at ht; exact okS_th ((wn.dn _ (Fm.dget_mem ed)).2 t ht)
      · cases et
    · cases e
theorem lay_done {x : Str} (h : okS x) : (dDone (.str x)).canLay0 = true := by
  have h1 := okS_ok h
  have h2 : PyData.strOk ("done" : Str) = true := by decide +kernel
  unfold dDone
  simp [PyData.canLay0, PyData.canLayAll0, h1, h2]
theorem lay_ref (e : Er) : (dRef e).canLay0 = true := by
  have h2 : PyData.strOk ("refused" : Str) = true := by decide +kernel
  unfold dRef
  simp [PyData.canLay0, PyData.canLayAll0, h2]
theorem lay_due {M : Wd} {r : Row} (wg : WG M) (wn : WN M) (hq : isQ r = true) : (dDue M r).canLay0 = true ∧ SeqAt.shaped (dDue M r) = true ∧ PyData.eqv (dDue M r) (dDue M r) = true := by
  have h1 : (dDue M r).canLay0 = true ∧ (dDue M r).depth ≤ 4 := by
    cases e : ansR M r with
    | error x => rw [dDue_er e]; exact ⟨lay_ref x, by unfold dRef; simp [PyData.depth, PyData.depthAll]⟩
    | ok y =>
      obtain ⟨M', x⟩ := y
      rw [dDue_ok e]
      exact ⟨lay_done (ansQ wg wn hq e).2, by unfold dDone; simp [PyData.depth, PyData.depthAll]⟩
  refine ⟨h1.1, ?_, SeqAt.eqv_refl _ h1.1⟩
  unfold SeqAt.shaped
  rw [h1.1]
  simp only [Bool.true_and, decide_eq_true_eq]
  omega
/-! ### both worlds -/
/-- the script, wherever it lies -/
def ScK (K : PySem.W.Frag) (H : Hp) (ow : Ow) (p : Addr) (ns : List Int) : Prop := (∃ o, H p = some o ∧ ow p = none ∧ ∀ H' : Hp, H' p = some o → SqL K H' p (ns.map V.int)) ∨ ∀ H' : Hp, SqL K H' p (ns.map V.int)
theorem ScK.sq {K : PySem.W.Frag} {H : Hp} {ow : Ow} {p : Addr} {ns : List Int} (h : ScK K H ow p ns) : SqL K H p (ns.map V.int) := by
  rcases h with ⟨o, e, _, k⟩ | k
  · exact k H e
  · exact k H
theorem ScK.of {K : PySem.W.Frag} {H : Hp} {p : Addr} {ns : List Int} (h : SqL K H p (ns.map V.int)) : ScK K H (fun _ => none) p ns := by
  rcases h with (e | ⟨o, e⟩) | e
  · exact .inl ⟨_, e, rfl, fun H' e' => .inl (.inl e')⟩
  · exact .inl ⟨_, e, rfl, fun H' e' => .inl (.inr ⟨o, e'⟩)⟩
  · exact .inr fun H' => .inr e
theorem ScK.frm {K : PySem.W.Frag} {P : Lab → Prop} {H H' : Hp} {ow ow' : Ow} {p : Addr} {ns : List Int} (h : ScK K H ow p ns) (f : Frm P H ow H' ow') : ScK K H' ow' p ns := by
  rcases h with ⟨o, e, n, k⟩ | k
  · obtain ⟨e1, o1⟩ := f.at e (.inl n)
    exact .inl ⟨o, e1, o1.trans n, k⟩
  · exact .inr k
theorem ScK.same {K : PySem.W.Frag} {H H' : Hp} {ow : Ow} {p : Addr} {ns : List Int} (h : ScK K H ow p ns) (s : Same H H') : ScK K H' ow p ns := by
  rcases h with ⟨o, e, n, k⟩ | k
  · exact .inl ⟨o, s _ _ e, n, k⟩
  · exact .inr k
structure LA (K : PySem.W.Frag) (H : Hp) (ow : Ow) (p : Addr) (ns : List Int) (d ddx a b : Addr) (M : Wd) : Prop where
  sc : ScK K H ow p ns
  dk : H d = some (.ins (dC K) ddx (df a))
  dl : ow d = some (2, .ms)
  w0 : WAt K 0 H ow a M
  w1 : WAt K 1 H ow b M
  cl : Clean H ow
theorem LA.same {K : PySem.W.Frag} {H H' : Hp} {ow : Ow} {p : Addr} {ns : List Int} {d ddx a b : Addr} {M : Wd} (h : LA K H ow p ns d ddx a b M) (s : Same H H') : LA K H' ow p ns d ddx a b M :=
  ⟨h.sc.same s, s _ _ h.dk, h.dl, h.w0.same s, h.w1.same s, cleanS h.cl s⟩
theorem wat_frm {K : PySem.W.Frag} {i j : Nat} {H H' : Hp} {ow ow' : Ow} {a : Addr} {M : Wd} (h : WAt K i H ow a M) (f : Frm (fun l => l.1 = j) H ow H' ow') (n : j ≠ i) : WAt K i H' ow' a M := by
  obtain ⟨x, hx⟩ := h
  exact ⟨x, hx.frm f fun l e z => n (e.symm.trans z)⟩
/-- the desk's world goes on, the other is as before -/
theorem LA.two {K : PySem.W.Frag} {H H1 H2 : Hp} {ow ow1 ow2 : Ow} {p : Addr} {ns : List Int} {d ddx a b : Addr} {M M' : Wd} (h : LA K H ow p ns d ddx a b M) (f : Frm (fun l => l.1 = 1) H ow H1 ow1) (w : WAt K 1 H1 ow1 b M')
    (g : Frm (fun l => l.1 = 0) H1 ow1 H2 ow2) (v : WAt K 0 H2 ow2 a M') : LA K H2 ow2 p ns d ddx a b M' := by
  obtain ⟨e2, o2⟩ := f.at h.dk (.inr ⟨_, h.dl, by decide⟩)
  obtain ⟨e4, o4⟩ := g.at e2 (.inr ⟨_, o2.trans h.dl, by decide⟩)
  exact ⟨(h.sc.frm f).frm g, e4, o4.trans (o2.trans h.dl), v, wat_frm w g (by decide), g.cl (f.cl h.cl)⟩
/-- the desk is asked -/
theorem LA.zero {K : PySem.W.Frag} {H H2 : Hp} {ow ow2 : Ow} {p : Addr} {ns : List Int} {d ddx a b : Addr} {M : Wd} (h : LA K H ow p ns d ddx a b M) (g : Frm (fun l => l.1 = 0) H ow H2 ow2) (v : WAt K 0 H2 ow2 a M) : LA K H2 ow2 p ns d ddx a b M := by
  obtain ⟨e4, o4⟩ := g.at h.dk (.inr ⟨_, h.dl, by decide⟩)
  exact ⟨h.sc.frm g, e4, o4.trans h.dl, v, wat_frm h.w1 g (by decide), g.cl h.cl⟩
/-- what the law keeps between its turns -/
def LInv (K : PySem.W.Frag) (p : Addr) (ns : List Int) (many : Nat) (share : Int) (i : Nat) (σ : L2.St) (H : Hp) : Prop := ∃ (ow : Ow) (d ddx a b : Addr) (M : Wd) (r : Row) (x7 x8 x9 x10 x11 x12 : Option V),
  σ = [some (.ref p), some (.int (many : Nat)), some (.int share), some (.ref d), some (.ref b), some (.int (M.asked.length : Nat)), some (.str (rowS r)), x7, x8, x9, x10, x11, x12] ∧ LA K H ow p ns d ddx a b M ∧ SI i M ∧ M.hs.length = many ∧ r.ok ∧ isQ r = true
/-- one turn -/
def tTurn (K : PySem.W.Frag) : L2.TS := fun D σ H => ∃ (p : Addr) (ns : List Int) (many : Nat) (share : Int) (i k : Nat) (ow : Ow) (d ddx a b : Addr) (M : Wd) (r : Row) (x8 x9 x10 x11 x12 : Option V),
  σ = [some (.ref p), some (.int (many : Nat)), some (.int share), some (.ref d), some (.ref b), some (.int (M.asked.length : Nat)), some (.str (rowS r)), some (.int (k : Int)), x8, x9, x10, x11, x12] ∧ LA K H ow p ns d ddx a b M ∧ SI i M ∧ M.hs.length = many ∧
  0 < many ∧ i ≤ 35 ∧ k < 1000 ∧ ∀ σ' H', LInv K p ns many share (i + 1) σ' H' → D.nx σ' H'
/-- the second part of a turn -/
def tTail (K : PySem.W.Frag) : L2.TS := fun D σ H => ∃ (p : Addr) (ns : List Int) (many : Nat) (share : Int) (i : Nat) (ow : Ow) (d ddx a b px : Addr) (M : Wd) (xs : List Int) (x6 x7 x9 x10 x11 x12 : Option V),
  σ = [some (.ref p), some (.int (many : Nat)), some (.int share), some (.ref d), some (.ref b), some (.int (M.asked.length : Nat)), x6, x7, some (.ref px), x9, x10, x11, x12] ∧ LA K H ow p ns d ddx a b M ∧ SI i M ∧ M.hs.length = many ∧
  0 < many ∧ i ≤ 36 ∧ H px = some (.lst (xs.map V.int)) ∧ xs.length = 7 ∧ (∀ x ∈ xs, 0 ≤ x) ∧ ∀ σ' H', LInv K p ns many share i σ' H' → D.nx σ' H'
/-- a row is asked again -/
def tAgain (K : PySem.W.Frag) : L2.TS := fun D σ H => ∃ (p : Addr) (ns : List Int) (many : Nat) (share : Int) (i : Nat) (ow : Ow) (d ddx a b : Addr) (M : Wd) (r : Row) (x6 x7 x8 x9 x10 x12 : Option V),
  σ = [some (.ref p), some (.int (many : Nat)), some (.int share), some (.ref d), some (.ref b), some (.int (M.asked.length : Nat)), x6, x7, x8, x9, x10, some (.str (rowS r)), x12] ∧ LA K H ow p ns d ddx a b M ∧ SI i M ∧ M.hs.length = many ∧
  i ≤ 36 ∧ r.ok ∧ isQ r = true ∧ ∀ H' ow' y, LA K H' ow' p ns d ddx a b M → Frm (fun l => l.1 = 0) H ow H' ow' → D.nx [some (.ref p), some (.int (many : Nat)), some (.int share), some (.ref d), some (.ref b), some (.int (M.asked.length : Nat)), x6, x7, x8, x9, x10, some (.str (rowS r)), y] H'
theorem isAsk_word {r : Row} : decide (V.str (rowW r) = V.str ("ask" : Str)) = isAskR r := by
  cases r <;> kernel_rfl
theorem not_ask {M : Wd} {r : Row} {e : Er} (h : ansR M r = .error e) (k : ∀ h, r = .ask h → M.is h = true) : isAskR r = false := by
  cases r with
  | ask g =>
    have := k g rfl
    simp only [ansR, Wd.ask, this] at h
    cases h
  | _ => rfl
/-- the desk is asked for something -/
def spLSayQ (K : PySem.W.Frag) : Sp := fun vs H Q _ => ∃ (p : Addr) (ns : List Int) (ow : Ow) (d ddx a b : Addr) (M : Wd) (r : Row), vs = [.ref d, .str (rowS r)] ∧ LA K H ow p ns d ddx a b M ∧ RowOk M r ∧ isQ r = true ∧
  ∀ H' ow' v, LA K H' ow' p ns d ddx a b M → Frm (fun l => l.1 = 0) H ow H' ow' → DV H' v (dDue M r) → Q v H'
theorem sayQ {K : PySem.W.Frag} {vs : List V} {H : Hp} {Q : VK} {E : XK} (h : spLSayQ K vs H Q E) : spLSay K vs H Q E := by
  obtain ⟨p, ns, ow, d, ddx, a, b, M, r, rfl, la, hro, hq, q⟩ := h
  refine ⟨0, ow, d, ddx, a, M, r, rfl, la.dk, la.w0, la.cl, hro, ?_⟩
  cases e : ansR M r with
  | error x =>
    intro H' v s dv
    exact q H' ow v (la.same s) (Frm.of_same s la.cl) (by rw [dDue_er e]; exact dv)
  | ok y =>
    obtain ⟨M', x⟩ := y
    intro H' ow' v f w dv
    obtain ⟨rfl, _⟩ := ansQ hro.wg hro.wn hq e
    exact q H' ow' v (la.zero f w) f (by rw [dDue_ok e]; exact dv)
/-- a script of numbers -/
def spLaw (K : PySem.W.Frag) : Sp := fun vs H Q _ => ∃ (p : Addr) (ns : List Int), vs = [.ref p] ∧ SqL K H p (ns.map V.int) ∧ ns.length ≤ 1000 ∧ ∀ H', Q (.bl true) H'
section
variable {P : Program} {w : World} {K : PySem.W.Frag} {mg : Str → Option Value} {base : Heap}
theorem scLaw : FnScope ["_law_script", "_law_many", "_law_share", "_law_desk", "_law_world", "_law_asked", "_law_row", "_law_k", "_law_xs", "_law_deed_here", "_law_due_here", "_law_again", "_law_told"] ["_law_script"] (defScope s_law) := ⟨rfl, rfl, rfl, by decide +kernel, rfl, by decide +kernel, by decide +kernel⟩
end
end Fh

set_option Elab.async false
set_option linter.all false
set_option maxRecDepth 100000
set_option maxHeartbeats 4000000
namespace Fh
open PySem PySem.Spec L2 FhR FhH L2H
open Fm (Th Hs StD Wd Er HG HB HSm Sts SZ Inq Lt Ab WG ArrOk SI)
section
variable {P : Program} {w : World} {K : PySem.W.Frag} {mg : Str → Option Value} {base : Heap}
theorem ok_law (X : TX K mg) {fd : FuncData} (F : FunD K d_law.name d_law.qual d_law.params d_law.body d_law.scope [] [] (He.fAd K d_law.at_) fd) : FnOk P w K mg base (L2N.CX P w) 10 (He.fAd K d_law.at_) fd ["_law_script"] (spLaw K) := by
  have T := X.t
  obtain ⟨f1, F1, b1, k1⟩ := ok_lcell (P := P) (w := w) (base := base) T
  obtain ⟨f2, F2, b2, k2⟩ := ok_lstream (P := P) (w := w) (base := base) T
  obtain ⟨f3, F3, b3, k3⟩ := ok_Desk (P := P) (w := w) (base := base) T
  obtain ⟨f4, F4, b4, k4⟩ := ok_World (P := P) (w := w) (base := base) T
  obtain ⟨f5, F5, b5, k5⟩ := ok_ldeed (P := P) (w := w) (base := base) T
  obtain ⟨f6, F6, b6, k6⟩ := ok_done (P := P) (w := w) (base := base) X
  obtain ⟨f7, F7, b7, k7⟩ := ok_lsay (P := P) (w := w) (base := base) X
  obtain ⟨f8, F8, b8, k8⟩ := ok_row_of (P := P) (w := w) (base := base) T
  obtain ⟨f9, F9, b9, k9⟩ := ok_lask (P := P) (w := w) (base := base) T
  obtain ⟨f0, F0, b0, k0⟩ := ok_ldue (P := P) (w := w) (base := base) T
  refine F.ok (CX := L2N.CX P w) scLaw (fun vs H Q E h => ?_) (fun cdv A outer s H vs Q E hr h => ?_)
  · obtain ⟨p, ns, rfl, _⟩ := h
    rfl
  · obtain ⟨p, ns, rfl, hp, hl, q⟩ := h
    have hr1 := hr.mono (show 1 ≤ 9 by decide)
    have hr2 := hr.mono (show 2 ≤ 9 by decide)
    have hr3 := hr.mono (show 3 ≤ 9 by decide)
    have hr4 := hr.mono (show 4 ≤ 9 by decide)
    have hr6 := hr.mono (show 6 ≤ 9 by decide)
    have hr7 := hr.mono (show 7 ≤ 9 by decide)
    refine ⟨_, pss_cons (ps_set (i := 1) scLaw.nd rfl (.inl rfl) (pe_op op_add pe_int (pe_op op_mod (pe_call F1 hr1 rfl T.g_law_cell k1 b1 .nil passL (pa_cons (pv 0) (pa_cons pe_int pa_nil))) pe_int)))
      (pss_cons (ps_set (i := 2) scLaw.nd rfl (.inl rfl) (pe_op op_add pe_int (pe_op op_mod (pe_call F1 hr1 rfl T.g_law_cell k1 b1 .nil passL (pa_cons (pv 0) (pa_cons pe_int pa_nil))) pe_int)))
      (pss_cons (ps_set (i := 3) scLaw.nd rfl (.inl rfl) (pe_make T.k_Desk F3 hr6 rfl T.g_Desk b3 .nil passL (pa_cons (pv 1) (pa_cons (pv 2) pa_nil))))
      (pss_cons (ps_set (i := 4) scLaw.nd rfl (.inl rfl) (pe_make T.k_World F4 hr4 rfl T.g_World b4 .nil passL (pa_cons (pv 1) (pa_cons (pv 2) pa_nil))))
      (pss_cons (ps_set (i := 5) scLaw.nd rfl (.inl rfl) pe_int)
      (pss_cons (ps_set (i := 6) scLaw.nd rfl (.inl rfl) pe_str)
      (pss_cons (ps_for (passes_of rfl) rfl (pi_range2 rfl T.f_range (pa_cons pe_int (pa_cons (pe_callB (call_max2 rfl) rfl T.f_max PyProof.Rows.boot_max (pa_cons pe_int (pa_cons (pe_callB (call_min2 rfl) rfl T.f_min PyProof.Rows.boot_min (pa_cons pe_int (pa_cons (pe_callB call_len_seq rfl T.f_len boot_len (pa_cons (pv 0) pa_nil)) pa_nil))) pa_nil))) pa_nil))) (pg_name (i := 7) scLaw.nd rfl (.inl rfl))
        (pss_pre (t' := tTurn K)
          (pss_cons (ps_set (i := 8) scLaw.nd rfl (.inl rfl) (pe_call F2 hr1 rfl T.g_law_stream k2 b2 .nil passL (pa_cons (pe_call F1 hr1 rfl T.g_law_cell k1 b1 .nil passL (pa_cons (pv 0) (pa_cons (pv 7) pa_nil))) (pa_cons pe_int pa_nil))))
          (pss_cons (ps_set (i := 9) scLaw.nd rfl (.inl rfl) (pe_call F5 hr4 rfl T.g_law_deed k5 b5 .nil passL (pa_cons (pv 4) (pa_cons (pv 8) (pa_cons (pv 1) pa_nil)))))
          (pss_cons (ps_set (i := 5) scLaw.nd rfl (.inl rfl) (pe_op op_add (pv 5) (pe_callTy call_int1 rfl T.f_int PyProof.Rows.boot_int (pa_cons (pe_cmpR op_eq (pe_ix ix_tup (pv 9) pe_int (fun _ _ => rfl)) pe_str (nomark _)) pa_nil))))
          (pss_cons (ps_set (i := 10) scLaw.nd rfl (.inl rfl) (pe_call F6 hr7 rfl T.g_law_done k6 b6 .nil passL (pa_cons (pv 4) (pa_cons (pv 9) pa_nil))))
          (pss_cons (ps_if (pt_cmpR op_ne (pe_ix ix_tup (pe_call F7 hr rfl T.g_law_say k7 b7 .nil passL (pa_cons (pv 3) (pa_cons (pe_call F8 hr2 rfl T.g_law_row_of k8 b8 .nil passL (pa_cons (pv 9) pa_nil)) pa_nil))) pe_int (fun _ _ => rfl)) (pe_ix ix_tup (pv 10) pe_int (fun _ _ => rfl)) (nomark _)) (pss_one (ps_ret pe_bl)) pss_nil)
          (pss_pre (t' := tTail K)
            (pss_cons (ps_set (i := 6) scLaw.nd rfl (.inl rfl) (pe_call F9 hr3 rfl T.g_law_ask k9 b9 .nil passL (pa_cons (pv 4) (pa_cons (pv 8) (pa_cons (pv 1) (pa_cons (pv 5) pa_nil))))))
            (pss_one (ps_if (pt_cmpR (op_neD hr.units) (PE.imp (t' := tCall (spLSayQ K) [] E0 (tCons (tVar 3) (tCons (tVar 6) tNil))) (pe_call F7 hr rfl T.g_law_say k7 b7 .nil passL (pa_cons (pv 3) (pa_cons (pv 6) pa_nil))) (fun σ H Q ⟨v1, e1, v2, e2, z⟩ => ⟨v1, e1, v2, e2, sayQ (E := fun _ _ _ => False) z⟩)) (pe_call F0 hr4 rfl T.g_law_due k0 b0 .nil passL (pa_cons (pv 4) (pa_cons (pv 6) (pa_cons (pv 1) (pa_cons (pv 5) pa_nil))))) (nomark _)) (pss_one (ps_ret pe_bl)) pss_nil)))
            fun D σ H z => ?tail))))))
          fun D σ H z => ?turn))
      (pss_cons (ps_for (passes_of rfl) rfl (pi_list (pe_lst (pa_cons (pv 6) (pa_cons pe_str (pa_cons pe_str (pa_cons pe_str (pa_cons (pv 6) (pa_cons pe_str pa_nil)))))))) (pg_name (i := 11) scLaw.nd rfl (.inl rfl))
        (pss_pre (t' := tAgain K)
          (pss_cons (ps_set (i := 12) scLaw.nd rfl (.inl rfl) (PE.imp (t' := tCall (spLSayQ K) [] E0 (tCons (tVar 3) (tCons (tVar 11) tNil))) (pe_call F7 hr rfl T.g_law_say k7 b7 .nil passL (pa_cons (pv 3) (pa_cons (pv 11) pa_nil))) (fun σ H Q ⟨v1, e1, v2, e2, z⟩ => ⟨v1, e1, v2, e2, sayQ (E := fun _ _ _ => False) z⟩)))
          (pss_one (ps_if (PW.pt (pw_or (pt_cmpR (op_neD hr.units) (pv 12) (pe_call F0 hr4 rfl T.g_law_due k0 b0 .nil passL (pa_cons (pv 4) (pa_cons (pv 11) (pa_cons (pv 1) (pa_cons (pv 5) pa_nil))))) (nomark _))
              (pw_or1 (PW.pt (pw_and (pt_cmpR op_eq (pe_ix ix_tup (pv 12) pe_int (fun _ _ => rfl)) pe_str (nomark _))
                (pw_and1 (pt_not (pt_val (pe_callB call_isi rfl T.f_isinstance PyProof.Rows.boot_isinstance (pa_cons (pe_ix ix_tup (pv 12) pe_int (fun _ _ => rfl)) (pa_cons (pe_bltn (v := .ty "str") rfl T.f_str PyProof.Rows.boot_str rfl) pa_nil))))))))))) (pss_one (ps_ret pe_bl)) pss_nil)))
          fun D σ H z => ?again))
      (pss_one (ps_ret pe_bl))))))))), ?_⟩
    case tail =>
      obtain ⟨p, ns, many, share, i, ow, d, ddx, a, b, px, M, xs, x6, x7, x9, x10, x11, x12, rfl, la, si, hm, hpos, hi, hpx, hxl, hx0, q⟩ := z
      have hs4 : i ≤ 40 := by omega
      have wg := si.wg hs4
      have wn := si_wn si hs4
      have has := si.sz.as_
      refine ⟨_, rfl, _, rfl, _, rfl, _, rfl, 1, ow, b, px, M, xs, M.asked.length, by rw [hm]; rfl, la.w1, wg, wn, by omega, by omega, hpx, hxl, hx0, fun H1 r s1 rok rq => ?_⟩
      have la1 := la.same s1
      have ro := si_row si hs4 rok
      refine ⟨_, rfl, _, rfl, p, ns, ow, d, ddx, a, b, M, r, rfl, la1, ro, rq, fun H2 ow2 v2 la2 f2 dv2 => ?_⟩
      refine ⟨_, rfl, _, rfl, _, rfl, _, rfl, 1, ow2, b, M, r, by rw [hm]; rfl, la2.w1, wg, wn, rok, rq, fun H3 v3 s3 dv3 => ?_⟩
      obtain ⟨l1, l2, l3⟩ := lay_due wg wn rq
      refine ⟨dDue M r, dDue M r, (dv2.mono (Same.ts s3)).dp, dv3.dp, l2, l2, _, rfl, ?_⟩
      rw [l3]
      exact iteF (q _ _ ⟨ow2, d, ddx, a, b, M, r, _, _, _, _, _, _, rfl, la2.same s3, si, hm, rok, rq⟩)
    case turn =>
      obtain ⟨p, ns, many, share, i, k, ow, d, ddx, a, b, M, r, x8, x9, x10, x11, x12, rfl, la, si, hm, hpos, hi, hk, q⟩ := z
      have hs4 : i ≤ 40 := by omega
      have wg := si.wg hs4
      have wn := si_wn si hs4
      refine ⟨_, rfl, _, rfl, p, ns, k, rfl, la.sc.sq, hk, fun y => ?_⟩
      refine ⟨y, rfl, fun H1 px xs s1 n1 e1 l1 g1 => ?_⟩
      have la1 := la.same s1
      have ox : ow px = none := la.cl _ n1
      refine ⟨_, rfl, _, rfl, _, rfl, 1, ow, b, px, M, xs, by rw [hm]; rfl, la1.w1, wg, wn, by omega, e1, l1, g1, fun H2 v r1 s2 dv act => ?_⟩
      have la2 := la1.same s2
      have e2 := s2 _ _ e1
      obtain ⟨act1, act2, act3⟩ := act
      have ro := si_row si hs4 act2
      have dvx := dv
      obtain ⟨pd, ws, rfl, epd, dws⟩ := DV.tupE dvx
      obtain ⟨vw, wt, rfl, dvw, dwt⟩ := dws.consE
      cases dvw.strE
      refine ⟨_, rfl, _, rfl, _, _, _, _, rfl, rfl, SqT.of epd, atI_nat (j := 0) rfl, rfl, .inr ⟨_, rfl, _, _, rfl, rfl, ?_⟩⟩
      rw [isAsk_word]
      refine ⟨_, rfl, _, rfl, 1, ow, b, .ref pd, M, r1, rfl, dv, act1, la2.w1, la2.cl, ro, ?_⟩
      cases er : ansR M r1 with
      | error x =>
        intro H3 p3 vx s3 e3
        have na := not_ask er act3
        refine ⟨_, rfl, _, rfl, .ref pd, r1, rfl, dv.mono (Same.ts s3), act2, fun H4 s4 => ?_⟩
        have la4 := (la2.same s3).same s4
        refine ⟨0, ow, d, ddx, a, M, r1, rfl, la4.dk, la4.w0, la4.cl, ro, ?_⟩
        rw [er]
        intro H5 v5 s5 dv5
        obtain ⟨p5, ws5, rfl, e5, d5⟩ := DV.tupE dv5
        obtain ⟨v5, ws5, rfl, dv5a, d5⟩ := d5.consE
        cases dv5a.strE
        have la5 := la4.same s5
        refine ⟨_, _, _, _, rfl, rfl, SqT.of e5, atI_nat (j := 0) rfl, _, rfl, _, _, _, _, rfl, rfl, SqT.of (s5 _ _ (s4 _ _ e3)), atI_nat (j := 0) rfl, rfl, _, rfl, iteF' (by kernel_rfl) ?_⟩
        rw [na]
        exact ⟨p, ns, many, share, i + 1, ow, d, ddx, a, b, px, M, xs, _, _, _, _, _, _, by rfl, la5, si.mono (Nat.le_succ i), hm, hpos, by omega, s5 _ _ (s4 _ _ (s3 _ _ e2)), l1, g1, q⟩
      | ok y =>
        obtain ⟨M', x⟩ := y
        intro H3 ow3 p3 vx f3 w3 e3
        obtain ⟨hk1, hk2⟩ := ans_keep er
        refine ⟨_, rfl, _, rfl, .ref pd, r1, rfl, dv.mono f3.tup, act2, fun H4 s4 => ?_⟩
        have f4 := f3.trans (Frm.of_same s4 (f3.cl la2.cl))
        have w4 := w3.same s4
        obtain ⟨e4d, o4d⟩ := f4.at la2.dk (.inr ⟨_, la2.dl, by decide⟩)
        refine ⟨0, ow3, d, ddx, a, M, r1, rfl, e4d, wat_frm la2.w0 f4 (by decide), f4.cl la2.cl, ro, ?_⟩
        rw [er]
        intro H5 ow5 v5 f5 w5 dv5
        have la5 := la2.two f4 w4 f5 w5
        obtain ⟨p5, ws5, rfl, e5, d5⟩ := DV.tupE dv5
        obtain ⟨v5, ws5, rfl, dv5a, d5⟩ := d5.consE
        cases dv5a.strE
        refine ⟨_, _, _, _, rfl, rfl, SqT.of e5, atI_nat (j := 0) rfl, _, rfl, _, _, _, _, rfl, rfl, SqT.of (f5.tup _ _ (s4 _ _ e3)), atI_nat (j := 0) rfl, rfl, _, rfl, iteF' (by kernel_rfl) ?_⟩
        obtain ⟨e4x, o4x⟩ := f4.at e2 (.inl ox)
        obtain ⟨e5x, o5x⟩ := f5.at e4x (.inl (o4x.trans ox))
        have si' := si_ans si hs4 er
        have eas : ((M.asked.length : Nat) : Int) + (if isAskR r1 = true then 1 else 0) = ((M'.asked.length : Nat) : Int) := by
          rw [hk2]
          split <;> simp
        show tTail K _ [some (.ref p), some (.int (many : Nat)), some (.int share), some (.ref d), some (.ref b), some (.int ((M.asked.length : Nat) + (if isAskR r1 = true then 1 else 0))), _, _, some (.ref px), _, _, _, _] H5
        rw [eas]
        exact ⟨p, ns, many, share, i + 1, ow5, d, ddx, a, b, px, M', xs, _, _, _, _, _, _, rfl, la5, si', by omega, hpos, by omega, e5x, l1, g1, q⟩
    case again =>
      obtain ⟨p, ns, many, share, i, ow, d, ddx, a, b, M, r, x6, x7, x8, x9, x10, x12, rfl, la, si, hm, hi, rok, rq, q⟩ := z
      have hs4 : i ≤ 40 := by omega
      have wg := si.wg hs4
      have wn := si_wn si hs4
      have ro := si_row si hs4 rok
      refine ⟨_, rfl, _, rfl, p, ns, ow, d, ddx, a, b, M, r, rfl, la, ro, rq, fun H2 ow2 v2 la2 f2 dv2 => ?_⟩
      refine ⟨_, rfl, _, rfl, _, rfl, _, rfl, _, rfl, 1, ow2, b, M, r, by rw [hm]; rfl, la2.w1, wg, wn, rok, rq, fun H3 v3 s3 dv3 => ?_⟩
      obtain ⟨l1, l2, l3⟩ := lay_due wg wn rq
      have la3 := la2.same s3
      have f3 := f2.trans (Frm.of_same s3 (f2.cl la.cl))
      have dv2' := dv2.mono (Same.ts s3)
      refine ⟨dDue M r, dDue M r, dv2'.dp, dv3.dp, l2, l2, _, rfl, ?_⟩
      rw [l3]
      refine iteF ?_
      have fin := q H3 ow2 (some v2) la3 f3
      cases e : ansR M r with
      | error x =>
        rw [dDue_er e] at dv2'
        obtain ⟨p5, ws5, rfl, e5, d5⟩ := DV.tupE dv2'
        obtain ⟨v5, ws5, rfl, dv5a, d5⟩ := d5.consE
        cases dv5a.strE
        exact ⟨_, rfl, _, _, _, _, rfl, rfl, SqT.of e5, atI_nat (j := 0) rfl, rfl, _, rfl, iteF' (by kernel_rfl) (iteF fin)⟩
      | ok y =>
        obtain ⟨M', x⟩ := y
        rw [dDue_ok e] at dv2'
        obtain ⟨p5, ws5, rfl, e5, d5⟩ := DV.tupE dv2'
        obtain ⟨v5, ws6, rfl, dv5a, d6⟩ := d5.consE
        cases dv5a.strE
        obtain ⟨v6, ws7, rfl, dv6a, d7⟩ := d6.consE
        cases dv6a.strE
        refine ⟨_, rfl, _, _, _, _, rfl, rfl, SqT.of e5, atI_nat (j := 0) rfl, rfl, _, rfl, iteT' (by kernel_rfl) ?_⟩
        exact ⟨_, rfl, _, _, _, _, rfl, rfl, SqT.of e5, atI_nat (j := 1) rfl, .str x, .ty "str", _, _, _, rfl, .ty _, .base (.str x), kit_ty (r := true) (by decide +kernel), _, rfl, iteF fin⟩
    have hcl : Clean H (fun _ => none) := fun _ _ => rfl
    refine ⟨_, rfl, p, ns, 0, rfl, hp, by decide, fun y0 => ⟨_, _, rfl, rfl, (by show (0 : Int) < 4; decide), _, _, rfl, rfl, ?_⟩⟩
    have g1 := Int.emod_nonneg y0 (show (4 : Int) ≠ 0 by decide)
    have g2 := Int.emod_lt_of_pos y0 (show (0 : Int) < 4 by decide)
    show tSeq _ _ _ ([some (.ref p), some (.int (1 + y0 % 4))] ++ [none, none, none, none, none, none, none, none, none, none, none]) H
    obtain ⟨many, hmany⟩ : ∃ n : Nat, 1 + y0 % 4 = (n : Int) := ⟨(1 + y0 % 4).toNat, by omega⟩
    have hn1 : 0 < many := by omega
    have hn4 : many ≤ 4 := by omega
    rw [hmany]
    refine ⟨_, rfl, p, ns, 1, rfl, hp, by decide, fun y1 => ⟨_, _, rfl, rfl, (by show (0 : Int) < 8; decide), _, _, rfl, rfl, ?_⟩⟩
    have g3 := Int.emod_nonneg y1 (show (8 : Int) ≠ 0 by decide)
    show tSeq _ _ _ ([some (.ref p), some (.int (many : Int)), some (.int (2 + y1 % 8))] ++ [none, none, none, none, none, none, none, none, none, none]) H
    have hsh : 1 ≤ 2 + y1 % 8 := by omega
    generalize 2 + y1 % 8 = share at hsh
    refine ⟨_, rfl, _, rfl, fun d ddx nd nx ne => ?_⟩
    have nd' : upd H ddx (.own d) d = none := by rw [upd_ne ne.symm]; exact nd
    have f0 : Frm (fun m => m.1 = 0 ∨ m = (2, .ms)) H (fun _ => none) _ (setO (fun _ => none) d (2, .ms)) := (((Frm.refl).new (o := .own d) nx).new (o := .ins (dC K) ddx []) nd').label (l := (2, .ms)) nd ⟨_, upd_same⟩
    refine ⟨0, (2, .ms), setO (fun _ => none) d (2, .ms), d, ddx, many, share, rfl, upd_same, setO_same, by decide, f0.cl hcl, hn4, fun H2 ow2 a f2 e2 l2 w2 => ⟨rfl, ?_⟩⟩
    have f02 := f0.trans f2
    have sc2 := (ScK.of hp).frm f02
    have cl2 := f02.cl hcl
    refine ⟨_, rfl, _, rfl, fun b bdx nb nbx nbe => ?_⟩
    have nb' : upd H2 bdx (.own b) b = none := by rw [upd_ne nbe.symm]; exact nb
    have f3 : Frm (fun m => m.1 = 1) H2 ow2 _ (setO ow2 b (1, .ms)) := (((Frm.refl).new (o := .own b) nbx).new (o := .ins (wC K) bdx []) nb').label (l := (1, .ms)) nb ⟨_, upd_same⟩
    refine ⟨1, setO ow2 b (1, .ms), b, bdx, many, share, rfl, upd_same, setO_same, f3.cl cl2, hn4, fun H4 ow4 f4 w4 => ⟨rfl, ?_⟩⟩
    have f34 := f3.trans f4
    obtain ⟨e4, l4⟩ := f34.at e2 (.inr ⟨_, l2, by decide⟩)
    have la : LA K H4 ow4 p ns d ddx a b (Wd.new many share) := ⟨sc2.frm f34, e4, l4.trans l2, wat_frm w2 f34 (by decide), w4, f34.cl cl2⟩
    have si := Fm.si_new (n := many) (share := share) hn4 hsh
    have hm : (Wd.new many share).hs.length = many := List.length_replicate
    refine ⟨_, rfl, p, _, rfl, .inl la.sc.sq, _, _, rfl, _, _, rfl, ?_⟩
    rw [List.length_map]
    obtain ⟨top, htop⟩ : ∃ top : Int, (if (if ((ns.length : Nat) : Int) < 32 then ((ns.length : Nat) : Int) else 32) > 12 then (if ((ns.length : Nat) : Int) < 32 then ((ns.length : Nat) : Int) else 32) else 12) = top := ⟨_, rfl⟩
    have ht1 : 12 ≤ top ∧ top ≤ 32 := by
      rw [← htop]
      split <;> split <;> omega
    rw [htop]
    refine ⟨_, _, rfl, ⟨by decide, by decide, by omega, by omega⟩, ?_⟩
    refine for_it walk_range (fun j σ H' => LInv K p ns many share j σ H') ⟨ow4, d, ddx, a, b, Wd.new many share, .post, _, _, _, _, _, _, rfl, la, si, hm, (fun p hp => nomatch hp), rfl⟩ (fun _ _ _ _ _ => True.intro) ?_ ?_
    · rintro j v σ H5 H6 hj ⟨ow5, d5, ddx5, a5, b5, M5, r5, x7, x8, x9, x10, x11, x12, rfl, la5, si5, hm5, rok5, rq5⟩ ⟨rfl, ev⟩
      have hj' : j < 30 := by omega
      obtain rfl : v = .int (((j + 2 : Nat)) : Int) := ev.trans (congrArg V.int (by omega))
      exact ⟨p, ns, many, share, j, j + 2, ow5, d5, ddx5, a5, b5, M5, r5, _, _, _, _, _, rfl, la5, si5, hm5, hn1, by omega, by omega, fun _ _ z => z⟩
    · rintro σ H6 ⟨ow5, d5, ddx5, a5, b5, M5, r5, x7, x8, x9, x10, x11, x12, rfl, la5, si5, hm5, rok5, rq5⟩
      refine ⟨_, rfl, _, rfl, (by show 6 ≤ sizeLine; decide), fun D nD => ?_⟩
      have la6 := la5.same (same_new (o := .lst [.str (rowS r5), .str "hand 0", .str "things 0", .str "found 1", .str (rowS r5), .str "post"]) nD)
      have oD : ow5 D = none := la5.cl _ nD
      have eD : upd H6 D (.lst [.str (rowS r5), .str "hand 0", .str "things 0", .str "found 1", .str (rowS r5), .str "post"]) D = some (.lst [.str (rowS r5), .str "hand 0", .str "things 0", .str "found 1", .str (rowS r5), .str "post"]) := upd_same
      have n0 : Nm 0 := ⟨by decide, by decide⟩
      have n1 : Nm 1 := ⟨by decide, by decide⟩
      have q0 : ("hand 0" : Str) = rowS (.hand 0) := by rw [← row_hand, zeroS]; decide +kernel
      have q1 : ("things 0" : Str) = rowS (.things 0) := by rw [← row_things, zeroS]; decide +kernel
      have q2 : ("found 1" : Str) = rowS (.found 1) := by rw [← row_found, show numS 1 = ("1" : Str) by kernel_rfl]; decide +kernel
      have rows : ∀ v ∈ [V.str (rowS r5), .str "hand 0", .str "things 0", .str "found 1", .str (rowS r5), .str "post"], ∃ r : Row, v = .str (rowS r) ∧ r.ok ∧ isQ r = true := by
        intro v hv
        simp only [List.mem_cons, List.not_mem_nil, or_false] at hv
        rcases hv with rfl | rfl | rfl | rfl | rfl | rfl
        · exact ⟨r5, rfl, rok5, rq5⟩
        · exact ⟨.hand 0, by rw [q0], okP1 n0, rfl⟩
        · exact ⟨.things 0, by rw [q1], okP1 n0, rfl⟩
        · exact ⟨.found 1, by rw [q2], okP1 n1, rfl⟩
        · exact ⟨r5, rfl, rok5, rq5⟩
        · exact ⟨.post, rfl, (fun p hp => nomatch hp), rfl⟩
      revert la6 eD rows
      generalize [V.str (rowS r5), .str "hand 0", .str "things 0", .str "found 1", .str (rowS r5), .str "post"] = vs
      intro la6 eD rows
      generalize upd H6 D (.lst vs) = H7 at la6 eD
      refine ⟨D, rfl, ⟨_, SqL.of eD⟩, ?_⟩
      refine for_it (walk_list (a := D) (xs := vs)) (fun j σ H' => ∃ (ow' : Ow) (y11 y12 : Option V), σ = [some (.ref p), some (.int (many : Nat)), some (.int share), some (.ref d5), some (.ref b5), some (.int (M5.asked.length : Nat)), some (.str (rowS r5)), x7, x8, x9, x10, y11, y12] ∧ LA K H' ow' p ns d5 ddx5 a5 b5 M5 ∧ H' D = some (.lst vs) ∧ ow' D = none)
        ⟨ow5, _, _, rfl, la6, eD, oD⟩ (fun j σ H' _ z => by obtain ⟨_, _, _, _, _, z, _⟩ := z; exact SqL.of z) ?_ ?_
      · rintro j v σ H8 H9 hj ⟨ow', y11, y12, rfl, la9, e9, o9⟩ ⟨rfl, hv⟩
        obtain ⟨r, rfl, rok, rq⟩ := rows v (List.mem_of_getElem? hv)
        refine ⟨p, ns, many, share, _, ow', d5, ddx5, a5, b5, M5, r, _, _, _, _, _, _, rfl, la9, si5, hm5, by omega, rok, rq, fun H' ow2 y la2 f2 => ?_⟩
        obtain ⟨e10, o10⟩ := f2.at e9 (.inl o9)
        exact ⟨ow2, _, _, rfl, la2, e10, o10.trans o9⟩
      · rintro σ H8 ⟨ow', y11, y12, rfl, la9, e9, o9⟩
        exact q _
end
end Fh

set_option Elab.async false
set_option linter.all false
set_option maxRecDepth 100000
set_option maxHeartbeats 0
namespace Fh
open PySem PySem.Spec PyProof.Rows L2
def loose0 : List PySem.Str := ["HoldError", "NoHouse", "NotHeld", "NotNear", "Missing", "NoWeight", "NoLetter", "NoInquiry", "NoRow", "parted", "near_reach", "House", "outs_of", "holds_of", "recorded", "roots_of", "reached_from", "unreached", "Inquiry", "Post", "World", "FIGURES", "MOST_FIGURES", "number_of", "thing_of", "read_by", "thing_text", "listed", "letter_text", "Desk"]
def loose1 : List PySem.Str := ["_law_cell", "_law_stream", "_law_class", "_law_pick", "_law_held_by", "_law_come", "_law_deed", "_law_done", "_law_thing", "_law_listed", "_law_say", "_law_row_of", "_law_text_of", "_law_things_of", "_law_holds_of", "_law_ask", "_law_due"]
def loose : List PySem.Str := loose0 ++ (loose1)
abbrev R : PySem.W.OpenRow := PySem.W.OpenLaw.row PySem.Challenge.rw_farhold_k52_desk_asks
abbrev hk : PySem.W.Hook := He.hookX 4 fa fn [] [] ex
def ob (s : PySem.W.SharedT) : He.AlX := He.obsX 4 fa fn [] [] ex (HandSHeadRun.getT s)
theorem ob_eq (s : PySem.W.SharedT) : ob s = hk.obs s.abs := He.obsX_eq (HandSHeadRun.getT_eq s)
theorem run (w : World) : HandSHeadRun.RunEq R (PySem.W.view R.prog [56]) hk ob 6000 loose w := by
  intro os
  kernel_rfl
end Fh

set_option Elab.async false
set_option linter.all false
set_option maxRecDepth 100000
set_option maxHeartbeats 0
namespace Fh
open PySem PySem.Spec PyProof.Rows L2
/-- nothing is let out: the same promise in the plain form -/
theorem fn_plain {P : Program} {w : World} {K : PySem.W.Frag} {mg : Str → Option Value} {base : Heap} {k : Nat} {f : Addr} {fd : FuncData} {ps : List Str} {sp : Sp} (F : FnOk P w K mg base (L2N.CX P w) k f fd ps sp)
    (h : ∀ vs H Q E, sp vs H Q E → sp vs H Q E0) : FnOk P w K mg base CX0 k f fd ps sp :=
  ⟨F.len, fun A outer s H args us vs Q E hr he hb hv hs => codeAny_mono (F.run A outer s H args us vs Q E0 hr he hb hv (h _ _ _ _ hs)) fun r s' z => by
    cases r with
    | ok v =>
      cases v with
      | ret u => exact z
      | _ => exact z.elim
    | error e =>
      obtain ⟨_, _, _, _, _, _, _, _, _, _, _, _, z⟩ := z
      exact False.elim z⟩
theorem facts {P : Program} {w : World} {K : PySem.W.Frag} {h : Heap} {mg : Str → Option Value} {f : Addr} (X : K.In h) (G : h.Ns mainGlobals mg) (hfa : mg ("law" : Str) = some (.ref f)) (c : He.SaysX fa fn [] [] ex w h K) :
    ∃ fd : FuncData, (∀ (s : Shared) (v : Value), BindsTo s fd ⟨[v], []⟩ [("_law_script", v)]) ∧ ∀ base : Heap, K.In base → base.Ns mainGlobals mg → FnOk P w K mg base CX0 10 f fd ["_law_script"] (spLaw K) := by
  have T : Tx K mg := Tx.of X G c.t.d
  have TXX : TX K mg := ⟨T, c.more⟩
  obtain ⟨fd, F⟩ := c.t.d.def_ 85 (d := d_law) rfl
  have F : FunD K d_law.name d_law.qual d_law.params d_law.body d_law.scope [] [] (He.fAd K d_law.at_) fd := F
  have e := hfa.symm.trans T.g_law
  cases e
  have b := FunD.bindsA (ps := ["_law_script"]) F fun _ _ _ _ _ _ us hl => match us, hl with | [_], _ => rfl
  exact ⟨fd, fun s v => b s [v] rfl, fun base _ _ => fn_plain (ok_law TXX F) fun _ _ _ _ z => z⟩
end Fh
open PySem PySem.W PySem.Calls PyProof.Rows
theorem PySem.Challenge.cw_farhold_k52_desk_asks_holds : PySem.Challenge.rw_farhold_k52_desk_asks.Holds := by
  w_on; o_law
  refine HandSHeadRun.head_any (r := OpenLaw.row PySem.Challenge.rw_farhold_k52_desk_asks) (q := view (OpenLaw.row PySem.Challenge.rw_farhold_k52_desk_asks).prog [56]) (H := Fh.hk) (ob := Fh.ob) (M := 6000) (loose := Fh.loose) (d := HandSHeadRun.topDef (OpenLaw.row PySem.Challenge.rw_farhold_k52_desk_asks).prog 56) (kwd := []) Fh.ob_eq
    (by kernel_rfl) (fun s => by kernel_rfl) Fh.run (by kernel_rfl) (by kernel_rfl) (by kernel_rfl) (by rfl) (by first | assumption | decide +kernel) (by decide +kernel) ⟨rfl, rfl, rfl, rfl, rfl, by decide +kernel⟩ ?hw ?hc
  case hw => w_witness2
  case hc =>
    refine L2.walk_ofE (l := PySem.Challenge.rw_farhold_k52_desk_asks) (n := 63) (k := 10) (x := "_law_script") (CX := L2.CX0) rfl (by decide) (by kernel_rfl) ⟨rfl, by decide, by decide⟩ ?F (fun _ _ _ _ z => z)
    intro w mg fa h Y G hmg0
    obtain ⟨K, KX, c⟩ := Y
    have hmg : mg ("law" : PySem.Str) = some (.ref fa) := by
      have e : (HandSHeadRun.topDef (OpenLaw.row PySem.Challenge.rw_farhold_k52_desk_asks).prog 56).name = ("law" : PySem.Str) := by kernel_rfl
      rw [← e]
      exact hmg0
    obtain ⟨fd, hb, hF⟩ := Fh.facts (P := (PySem.Challenge.rw_farhold_k52_desk_asks).prog) (w := w) KX G hmg c
    exact ⟨K, fd, Fh.spLaw K, KX, hb, fun H a ns hl _ hS => ⟨a, ns, rfl, hS, Nat.le_trans hl (by decide), fun _ => rfl⟩, hF⟩
